import PyProof.Rows.All
import Wide.All
import OpenK.AllK
import Wide.FinOn
import KE.KDictDisplayH
import KE.KDictCopyH
import KE.KDictWalk
import HandS.ForMost
import HandS.Conv
import HandS.Sort
import KE.DataMinMax
import KE.GoesEnum
import KE.GoesZip
import KE.GoesMore
import HandS.SetFor
import HandS.Strs
import HandS.TupSets
import HandS.Deep
import KE.KStateDown
import Lean
import HandS.Exc
import HandS.Defaults
import HandS.IsInst
import HandS.Flow
import HandS.Style
import HandS.TupAny
import HandS.TupLe
import HandS.Walk
import HandS.Head0
import HandS.Head1
import HandS.Head2
import HandS.HeadEnd
import HandS.HeadHook1
import HandS.HeadHook2
import PySem.Challenge.RW_passlights_k66_across_deeds_and_lamps
/-! PLMath -/
/-! Plain mathematics of standings, deeds and fewest deeds: no program in sight. -/
set_option linter.all false
namespace PLM
abbrev S := List Int
abbrev Ar := List (Int × Int)

/-! ### ascending lists -/
theorem asc_ext : ∀ {s t : S}, s.Pairwise (· < ·) → t.Pairwise (· < ·) → (∀ k, k ∈ s ↔ k ∈ t) → s = t
  | [], [], _, _, _ => rfl
  | [], y :: t, _, _, h => by simpa using (h y).mpr (by simp)
  | x :: s, [], _, _, h => by simpa using (h x).mp (by simp)
  | x :: s, y :: t, hs, ht, h => by
    have hs' := List.pairwise_cons.mp hs
    have ht' := List.pairwise_cons.mp ht
    have e : x = y := by
      have h1 := (h x).mp (by simp)
      have h2 := (h y).mpr (by simp)
      rcases List.mem_cons.mp h1 with h1 | h1
      · exact h1
      rcases List.mem_cons.mp h2 with h2 | h2
      · exact h2.symm
      have a := ht'.1 x h1
      have b := hs'.1 y h2
      omega
    subst e
    refine congrArg _ (asc_ext hs'.2 ht'.2 fun k => ⟨fun hk => ?_, fun hk => ?_⟩)
    · rcases List.mem_cons.mp ((h k).mp (List.mem_cons_of_mem _ hk)) with z | z
      · have := hs'.1 k hk; omega
      · exact z
    · rcases List.mem_cons.mp ((h k).mpr (List.mem_cons_of_mem _ hk)) with z | z
      · have := ht'.1 k hk; omega
      · exact z
theorem asc_of_le : ∀ {s : S}, s.Pairwise (· ≤ ·) → s.Nodup → s.Pairwise (· < ·)
  | [], _, _ => List.Pairwise.nil
  | x :: s, h, hn => by
    have h' := List.pairwise_cons.mp h
    have hn' := List.nodup_cons.mp hn
    refine List.pairwise_cons.mpr ⟨fun y hy => ?_, asc_of_le h'.2 hn'.2⟩
    have a := h'.1 y hy
    have b : x ≠ y := fun e => hn'.1 (e ▸ hy)
    omega
theorem asc_nodup {s : S} (h : s.Pairwise (· < ·)) : s.Nodup := by
  refine List.Pairwise.imp ?_ h
  intro a b c
  omega

def Good (n : Int) (s : S) : Prop := s.Pairwise (· < ·) ∧ ∀ k ∈ s, 0 ≤ k ∧ k < n

def ins (k : Int) : S → S
  | [] => [k]
  | x :: r => if k < x then k :: x :: r else x :: ins k r
theorem mem_ins {j k : Int} : ∀ {s : S}, j ∈ ins k s ↔ j = k ∨ j ∈ s
  | [] => by simp [ins]
  | x :: r => by
    unfold ins
    split
    · simp
    · have ih := mem_ins (j := j) (k := k) (s := r)
      simp only [List.mem_cons, ih]
      constructor
      · rintro (h | h | h) <;> simp [h]
      · rintro (h | h | h) <;> simp [h]
theorem asc_ins {k : Int} : ∀ {s : S}, s.Pairwise (· < ·) → k ∉ s → (ins k s).Pairwise (· < ·)
  | [], _, _ => by simp [ins]
  | x :: r, h, hk => by
    have h' := List.pairwise_cons.mp h
    unfold ins
    split
    · rename_i hlt
      refine List.pairwise_cons.mpr ⟨fun y hy => ?_, h⟩
      rcases List.mem_cons.mp hy with e | e
      · omega
      · have := h'.1 y e; omega
    · rename_i hlt
      have hx : k ≠ x := fun e => hk (by simp [e])
      refine List.pairwise_cons.mpr ⟨fun y hy => ?_, asc_ins h'.2 fun z => hk (List.mem_cons_of_mem _ z)⟩
      rcases mem_ins.mp hy with e | e
      · omega
      · exact h'.1 y e
theorem length_ins {k : Int} : ∀ {s : S}, (ins k s).length = s.length + 1
  | [] => rfl
  | x :: r => by
    unfold ins
    split
    · rfl
    · simp [length_ins (k := k) (s := r)]

def tog (s : S) (k : Int) : S := if k ∈ s then s.filter (fun j => decide (j ≠ k)) else ins k s
theorem tog_in {s : S} {k : Int} (h : k ∈ s) : tog s k = s.filter (fun j => decide (j ≠ k)) := if_pos h
theorem tog_out {s : S} {k : Int} (h : k ∉ s) : tog s k = ins k s := if_neg h
theorem mem_tog {s : S} {j k : Int} : j ∈ tog s k ↔ if j = k then k ∉ s else j ∈ s := by
  by_cases h : k ∈ s
  · rw [tog_in h]
    by_cases e : j = k
    · subst e; simp [h]
    · simp [e]
  · rw [tog_out h, mem_ins]
    by_cases e : j = k
    · subst e; simp [h]
    · simp [e]
theorem mem_tog_self {s : S} {k : Int} : k ∈ tog s k ↔ k ∉ s := by rw [mem_tog, if_pos rfl]
theorem mem_tog_ne {s : S} {j k : Int} (h : j ≠ k) : j ∈ tog s k ↔ j ∈ s := by rw [mem_tog, if_neg h]
theorem asc_tog {s : S} {k : Int} (h : s.Pairwise (· < ·)) : (tog s k).Pairwise (· < ·) := by
  by_cases e : k ∈ s
  · rw [tog_in e]; exact h.filter _
  · rw [tog_out e]; exact asc_ins h e
theorem good_tog {n : Int} {s : S} {k : Int} (h : Good n s) (h0 : 0 ≤ k) (h1 : k < n) : Good n (tog s k) := by
  refine ⟨asc_tog h.1, fun j hj => ?_⟩
  by_cases e : j = k
  · subst e; exact ⟨h0, h1⟩
  · exact h.2 j ((mem_tog_ne e).mp hj)
theorem tog_tog {s : S} {k : Int} (h : s.Pairwise (· < ·)) : tog (tog s k) k = s := by
  refine asc_ext (asc_tog (asc_tog h)) h fun j => ?_
  by_cases e : j = k
  · subst e; rw [mem_tog_self, mem_tog_self]; simp
  · rw [mem_tog_ne e, mem_tog_ne e]
theorem length_tog_out {s : S} {k : Int} (h : k ∉ s) : (tog s k).length = s.length + 1 := by rw [tog_out h, length_ins]
theorem length_tog_in {s : S} {k : Int} (hs : s.Pairwise (· < ·)) (h : k ∈ s) : (tog s k).length + 1 = s.length := by
  have e : k ∉ tog s k := fun z => (mem_tog_self.mp z) h
  have q := length_tog_out e
  rw [tog_tog hs] at q
  exact q.symm

/-! ### webs -/
def ltA (e f : Int × Int) : Prop := e.1 < f.1 ∨ (e.1 = f.1 ∧ e.2 < f.2)
structure GW (n : Int) (ar : Ar) : Prop where
  n1 : 1 ≤ n
  n7 : n ≤ 7
  rng : ∀ e ∈ ar, (0 ≤ e.1 ∧ e.1 < n) ∧ (0 ≤ e.2 ∧ e.2 < n) ∧ e.1 ≠ e.2
  asc : ar.Pairwise ltA
  len : ar.length ≤ 49
def Turn (ar ar' : Ar) : Prop := ∀ a b, (a, b) ∈ ar' ↔ (b, a) ∈ ar
theorem Turn.symm {ar ar' : Ar} (h : Turn ar ar') : Turn ar' ar := fun a b => (h b a).symm

def lamps (n : Int) : S := (List.range n.toNat).map fun (i : Nat) => (i : Int)
theorem mem_lamps {n k : Int} : k ∈ lamps n ↔ 0 ≤ k ∧ k < n := by
  unfold lamps
  rw [List.mem_map]
  constructor
  · rintro ⟨i, hi, rfl⟩
    have := List.mem_range.mp hi
    omega
  · rintro ⟨h0, h1⟩
    exact ⟨k.toNat, List.mem_range.mpr (by omega), by omega⟩
theorem asc_lamps (n : Int) : (lamps n).Pairwise (· < ·) := by
  unfold lamps
  rw [List.pairwise_map]
  refine List.Pairwise.imp ?_ List.pairwise_lt_range
  intro a b h
  omega
theorem length_lamps (n : Int) : (lamps n).length = n.toNat := by simp [lamps]

def canB (ar : Ar) (s : S) (k : Int) : Bool :=
  if k ∈ s then ar.any fun e => decide (e.1 = k) && decide (e.2 ∈ s) else ar.any fun e => decide (e.2 = k) && decide (e.1 ∈ s)
theorem can_in {ar : Ar} {s : S} {k : Int} (h : k ∈ s) : canB ar s k = true ↔ ∃ b, (k, b) ∈ ar ∧ b ∈ s := by
  unfold canB
  rw [if_pos h, List.any_eq_true]
  constructor
  · rintro ⟨⟨x, y⟩, he, q⟩
    simp at q
    exact ⟨y, q.1 ▸ he, q.2⟩
  · rintro ⟨b, he, hb⟩
    exact ⟨(k, b), he, by simp [hb]⟩
theorem can_out {ar : Ar} {s : S} {k : Int} (h : k ∉ s) : canB ar s k = true ↔ ∃ a, (a, k) ∈ ar ∧ a ∈ s := by
  unfold canB
  rw [if_neg h, List.any_eq_true]
  constructor
  · rintro ⟨⟨x, y⟩, he, q⟩
    simp at q
    exact ⟨x, q.1 ▸ he, q.2⟩
  · rintro ⟨b, he, hb⟩
    exact ⟨(b, k), he, by simp [hb]⟩
theorem can_rng {n : Int} {ar : Ar} {s : S} {k : Int} (W : GW n ar) (g : Good n s) (h : canB ar s k = true) : 0 ≤ k ∧ k < n := by
  by_cases e : k ∈ s
  · exact g.2 k e
  · obtain ⟨a, ha, _⟩ := (can_out e).mp h
    exact (W.rng _ ha).2.1
theorem can_turn {n : Int} {ar ar' : Ar} {s : S} {k : Int} (W : GW n ar) (T : Turn ar ar') (h : canB ar s k = true) : canB ar' (tog s k) k = true := by
  by_cases e : k ∈ s
  · obtain ⟨b, hb, hs⟩ := (can_in e).mp h
    have ne : b ≠ k := fun z => (W.rng _ hb).2.2 z.symm
    refine (can_out fun z => (mem_tog_self.mp z) e).mpr ⟨b, (T b k).mpr hb, (mem_tog_ne ne).mpr hs⟩
  · obtain ⟨a, ha, hs⟩ := (can_out e).mp h
    have ne : a ≠ k := fun z => (W.rng _ ha).2.2 z
    refine (can_in (mem_tog_self.mpr e)).mpr ⟨a, (T k a).mpr ha, (mem_tog_ne ne).mpr hs⟩
def doab (n : Int) (ar : Ar) (s : S) : S := (lamps n).filter (canB ar s)
theorem mem_doab {n : Int} {ar : Ar} {s : S} {k : Int} (W : GW n ar) (g : Good n s) : k ∈ doab n ar s ↔ canB ar s k = true := by
  unfold doab
  rw [List.mem_filter]
  exact ⟨fun h => h.2, fun h => ⟨mem_lamps.mpr (can_rng W g h), h⟩⟩
theorem asc_doab (n : Int) (ar : Ar) (s : S) : (doab n ar s).Pairwise (· < ·) := (asc_lamps n).filter _
theorem length_doab {n : Int} {ar : Ar} (W : GW n ar) (s : S) : (doab n ar s).length ≤ 7 := by
  have h := List.length_filter_le (canB ar s) (lamps n)
  rw [length_lamps] at h
  have := W.n7
  unfold doab
  omega

/-! ### steps and ways -/
def Rl (n : Int) (ar : Ar) (ok : S → Prop) (s t : S) : Prop := Good n s ∧ Good n t ∧ ok s ∧ ok t ∧ ∃ k, canB ar s k = true ∧ t = tog s k
theorem Rl.turn {n : Int} {ar ar' : Ar} {ok : S → Prop} {s t : S} (W : GW n ar) (T : Turn ar ar') (h : Rl n ar ok s t) : Rl n ar' ok t s := by
  obtain ⟨g, g', o, o', k, hk, rfl⟩ := h
  exact ⟨g', g, o', o, k, can_turn W T hk, (tog_tog g.1).symm⟩
def Pth (R : S → S → Prop) : Nat → S → S → Prop
  | 0, s, t => s = t
  | m + 1, s, t => ∃ u, R s u ∧ Pth R m u t
theorem Pth.add {R : S → S → Prop} : ∀ {a b : Nat} {s u t : S}, Pth R a s u → Pth R b u t → Pth R (a + b) s t
  | 0, b, s, u, t, h, h' => by
    have h : s = u := h
    subst h
    rw [Nat.zero_add]
    exact h'
  | a + 1, b, s, u, t, ⟨v, r, h⟩, h' => by
    rw [Nat.add_right_comm]
    exact ⟨v, r, Pth.add h h'⟩
theorem Pth.split {R : S → S → Prop} : ∀ {a b : Nat} {s t : S}, Pth R (a + b) s t → ∃ u, Pth R a s u ∧ Pth R b u t
  | 0, b, s, t, h => ⟨s, rfl, by rw [Nat.zero_add] at h; exact h⟩
  | a + 1, b, s, t, h => by
    rw [Nat.add_right_comm] at h
    obtain ⟨v, r, h⟩ := h
    obtain ⟨u, h1, h2⟩ := Pth.split h
    exact ⟨u, ⟨v, r, h1⟩, h2⟩
theorem Pth.one {R : S → S → Prop} {s t : S} (h : R s t) : Pth R 1 s t := ⟨t, h, rfl⟩
theorem Pth.snoc {R : S → S → Prop} {m : Nat} {s u t : S} (h : Pth R m s u) (r : R u t) : Pth R (m + 1) s t := h.add (Pth.one r)
theorem Pth.last {R : S → S → Prop} {m : Nat} {s t : S} (h : Pth R (m + 1) s t) : ∃ u, Pth R m s u ∧ R u t := by
  obtain ⟨u, h1, v, r, e⟩ := Pth.split h
  have e : v = t := e
  subst e
  exact ⟨u, h1, r⟩
theorem Pth.rev {R R' : S → S → Prop} (hR : ∀ s t, R s t → R' t s) : ∀ {m : Nat} {s t : S}, Pth R m s t → Pth R' m t s
  | 0, s, t, h => Eq.symm h
  | m + 1, s, t, ⟨u, r, h⟩ => (Pth.rev hR h).snoc (hR _ _ r)
theorem Pth.imp {R R' : S → S → Prop} (hR : ∀ s t, R s t → R' s t) : ∀ {m : Nat} {s t : S}, Pth R m s t → Pth R' m s t
  | 0, s, t, h => h
  | m + 1, s, t, ⟨u, r, h⟩ => ⟨u, hR _ _ r, Pth.imp hR h⟩
theorem Pth.turn {n : Int} {ar ar' : Ar} {ok : S → Prop} {s t : S} {m : Nat} (W : GW n ar) (T : Turn ar ar') (h : Pth (Rl n ar ok) m s t) : Pth (Rl n ar' ok) m t s :=
  Pth.rev (fun _ _ r => Rl.turn W T r) h

def IsD (R : S → S → Prop) (b s : S) (d : Nat) : Prop := Pth R d b s ∧ ∀ m, Pth R m b s → d ≤ m
theorem IsD.uniq {R : S → S → Prop} {b s : S} {d e : Nat} (h : IsD R b s d) (h' : IsD R b s e) : d = e :=
  Nat.le_antisymm (h.2 _ h'.1) (h'.2 _ h.1)
theorem isD_of {R : S → S → Prop} {b s : S} : ∀ {m : Nat}, Pth R m b s → ∃ d, d ≤ m ∧ IsD R b s d := by
  intro m
  induction m using Nat.strongRecOn with
  | _ m ih =>
    intro h
    by_cases e : ∃ k, k < m ∧ Pth R k b s
    · obtain ⟨k, hk, hp⟩ := e
      obtain ⟨d, hd, q⟩ := ih k hk hp
      exact ⟨d, by omega, q⟩
    · refine ⟨m, Nat.le_refl _, h, fun k hk => ?_⟩
      by_cases hlt : k < m
      · exact absurd ⟨k, hlt, hk⟩ e
      · omega
theorem IsD.prev {R : S → S → Prop} {b s : S} {d : Nat} (h : IsD R b s (d + 1)) : ∃ u, IsD R b u d ∧ R u s := by
  obtain ⟨u, hu, r⟩ := h.1.last
  refine ⟨u, ⟨hu, fun m hm => ?_⟩, r⟩
  have := h.2 _ (hm.snoc r)
  omega
theorem IsD.zero {R : S → S → Prop} {b s : S} : IsD R b s 0 ↔ s = b :=
  ⟨fun h => (show b = s from h.1).symm, fun h => ⟨h.symm, fun _ _ => Nat.zero_le _⟩⟩

/-- the answer of a search by levels -/
structure DM (R : S → S → Prop) (b : S) (f : List (S × Int)) : Prop where
  nd : (f.map (·.1)).Nodup
  all : ∀ s z, (s, z) ∈ f ↔ ∃ d : Nat, z = (d : Int) ∧ IsD R b s d
structure Lv (R : S → S → Prop) (b : S) (f : List (S × Int)) (rows : List S) (d : Nat) : Prop where
  nd : (f.map (·.1)).Nodup
  sub : ∀ s z, (s, z) ∈ f → ∃ e : Nat, e ≤ d ∧ z = (e : Int) ∧ IsD R b s e
  sup : ∀ s (e : Nat), e ≤ d → IsD R b s e → (s, (e : Int)) ∈ f
  rows : ∀ s, s ∈ rows ↔ IsD R b s d
theorem lv0 (R : S → S → Prop) (b : S) : Lv R b [(b, 0)] [b] 0 where
  nd := by simp
  sub s z h := by
    have h : (s, z) = (b, 0) := by simpa using h
    cases h
    exact ⟨0, Nat.le_refl _, rfl, IsD.zero.mpr rfl⟩
  sup s e he h := by
    have e0 : e = 0 := by omega
    subst e0
    rw [IsD.zero.mp h]
    simp
  rows s := by rw [IsD.zero]; simp
theorem Lv.fin {R : S → S → Prop} {b : S} {f : List (S × Int)} {d : Nat} (L : Lv R b f [] d) : DM R b f where
  nd := L.nd
  all s z := by
    constructor
    · intro h
      obtain ⟨e, _, h1, h2⟩ := L.sub s z h
      exact ⟨e, h1, h2⟩
    · rintro ⟨e, rfl, h⟩
      have none : ∀ e s, d ≤ e → ¬ IsD R b s e := by
        intro e
        induction e with
        | zero =>
          intro s hd hs
          have e0 : d = 0 := by omega
          subst e0
          exact List.not_mem_nil ((L.rows s).mpr hs)
        | succ e ih =>
          intro s hd hs
          by_cases q : d = e + 1
          · subst q
            exact List.not_mem_nil ((L.rows s).mpr hs)
          · obtain ⟨u, hu, _⟩ := hs.prev
            exact ih u (by omega) hu
      by_cases q : d ≤ e
      · exact absurd h (none e s q)
      · exact L.sup s e (by omega) h
/-- the part of a level -/
structure Md (R : S → S → Prop) (f : List (S × Int)) (rows : List S) (d : Nat) (fc : List (S × Int)) (more : List S) : Prop where
  eq : fc = f ++ more.map fun t => (t, (d : Int) + 1)
  nd : more.Nodup
  dis : ∀ t ∈ more, t ∉ f.map (·.1)
  src : ∀ t ∈ more, ∃ u ∈ rows, R u t
theorem md0 {R : S → S → Prop} {f : List (S × Int)} {rows : List S} {d : Nat} : Md R f rows d f [] := ⟨by simp, by simp, fun _ h => (by cases h), fun _ h => (by cases h)⟩
theorem Md.keys {R : S → S → Prop} {f fc : List (S × Int)} {rows more : List S} {d : Nat} (M : Md R f rows d fc more) : fc.map (·.1) = f.map (·.1) ++ more := by
  rw [M.eq, List.map_append, List.map_map]
  congr 1
  exact List.map_id' more
theorem Md.new {R : S → S → Prop} {f fc : List (S × Int)} {rows more : List S} {d : Nat} {u t : S} (M : Md R f rows d fc more) (hu : u ∈ rows) (r : R u t) (h : t ∉ fc.map (·.1)) : Md R f rows d (fc ++ [(t, (d : Int) + 1)]) (more ++ [t]) := by
  rw [M.keys, List.mem_append, not_or] at h
  refine ⟨by rw [M.eq]; simp, ?_, fun v hv => ?_, fun v hv => ?_⟩
  · refine List.nodup_append.mpr ⟨M.nd, by simp, fun a ha b hb e => ?_⟩
    have hb : b = t := by simpa using hb
    subst hb; subst e
    exact h.2 ha
  · rcases List.mem_append.mp hv with z | z
    · exact M.dis v z
    · have : v = t := by simpa using z
      subst this
      exact h.1
  · rcases List.mem_append.mp hv with z | z
    · exact M.src v z
    · have : v = t := by simpa using z
      subst this
      exact ⟨u, hu, r⟩
theorem Lv.next {R : S → S → Prop} {b : S} {f fc : List (S × Int)} {rows more : List S} {d : Nat} (L : Lv R b f rows d) (M : Md R f rows d fc more) (all : ∀ u ∈ rows, ∀ t, R u t → t ∈ fc.map (·.1)) : Lv R b fc more (d + 1) := by
  have isf : ∀ t, t ∈ f.map (·.1) ↔ ∃ e : Nat, e ≤ d ∧ IsD R b t e := fun t => by
    rw [List.mem_map]
    constructor
    · rintro ⟨⟨s, z⟩, h, rfl⟩
      obtain ⟨e, h1, _, h2⟩ := L.sub s z h
      exact ⟨e, h1, h2⟩
    · rintro ⟨e, h1, h2⟩
      exact ⟨(t, (e : Int)), L.sup t e h1 h2, rfl⟩
  have newD : ∀ t, t ∈ more → IsD R b t (d + 1) := fun t ht => by
    obtain ⟨u, hu, r⟩ := M.src t ht
    have hd := (L.rows u).mp hu
    refine ⟨hd.1.snoc r, fun m hm => ?_⟩
    obtain ⟨e, he, q⟩ := isD_of hm
    by_cases z : e ≤ d
    · exact absurd ((isf t).mpr ⟨e, z, q⟩) (M.dis t ht)
    · omega
  have gotD : ∀ t, IsD R b t (d + 1) → t ∈ more := fun t ht => by
    obtain ⟨u, hu, r⟩ := ht.prev
    have q := all u ((L.rows u).mpr hu) t r
    rw [M.keys] at q
    rcases List.mem_append.mp q with q | q
    · obtain ⟨e, he, h⟩ := (isf t).mp q
      have := h.uniq ht
      omega
    · exact q
  refine ⟨?_, fun s z h => ?_, fun s e he h => ?_, fun s => ⟨newD s, gotD s⟩⟩
  · rw [M.keys]
    refine List.nodup_append.mpr ⟨L.nd, M.nd, fun a ha b hb e => ?_⟩
    subst e
    exact M.dis a hb ha
  · rw [M.eq] at h
    rcases List.mem_append.mp h with h | h
    · obtain ⟨e, h1, h2, h3⟩ := L.sub s z h
      exact ⟨e, by omega, h2, h3⟩
    · obtain ⟨t, ht, e⟩ := List.mem_map.mp h
      cases e
      exact ⟨d + 1, Nat.le_refl _, by omega, newD s ht⟩
  · rw [M.eq]
    by_cases q : e ≤ d
    · exact List.mem_append_left _ (L.sup s e q h)
    · have e1 : e = d + 1 := by omega
      subst e1
      exact List.mem_append_right _ (List.mem_map.mpr ⟨s, gotD s h, by simp⟩)

/-! ### how many standings there are -/
def subs : S → List S
  | [] => [[]]
  | x :: r => subs r ++ (subs r).map (x :: ·)
theorem length_subs : ∀ s : S, (subs s).length = 2 ^ s.length
  | [] => rfl
  | x :: r => by
    unfold subs
    rw [List.length_append, List.length_map, length_subs r, List.length_cons, Nat.pow_succ]
    omega
theorem mem_subs : ∀ {l s : S}, l.Pairwise (· < ·) → s.Pairwise (· < ·) → (∀ k ∈ s, k ∈ l) → s ∈ subs l
  | [], [], _, _, _ => by simp [subs]
  | [], y :: s, _, _, h => by simpa using h y (by simp)
  | x :: l, [], hl, hs, h => by
    unfold subs
    exact List.mem_append_left _ (mem_subs (List.pairwise_cons.mp hl).2 hs fun k hk => by cases hk)
  | x :: l, y :: s, hl, hs, h => by
    have hl' := List.pairwise_cons.mp hl
    have hs' := List.pairwise_cons.mp hs
    unfold subs
    by_cases e : y = x
    · subst e
      refine List.mem_append_right _ (List.mem_map.mpr ⟨s, mem_subs hl'.2 hs'.2 fun k hk => ?_, rfl⟩)
      rcases List.mem_cons.mp (h k (List.mem_cons_of_mem _ hk)) with z | z
      · have := hs'.1 k hk; omega
      · exact z
    · have hy : y ∈ l := (List.mem_cons.mp (h y (by simp))).resolve_left e
      have lt := hl'.1 y hy
      refine List.mem_append_left _ (mem_subs hl'.2 hs fun k hk => ?_)
      rcases List.mem_cons.mp (h k hk) with z | z
      · rcases List.mem_cons.mp hk with q | q
        · omega
        · have := hs'.1 k q; omega
      · exact z
theorem nodup_le {α : Type} [DecidableEq α] : ∀ {l m : List α}, l.Nodup → (∀ x ∈ l, x ∈ m) → l.length ≤ m.length
  | [], _, _, _ => Nat.zero_le _
  | x :: l, m, hn, h => by
    have hn' := List.nodup_cons.mp hn
    have hx := h x (by simp)
    have ih := nodup_le (l := l) (m := m.erase x) hn'.2 fun y hy => (List.mem_erase_of_ne (fun e : y = x => hn'.1 (e ▸ hy))).mpr (h y (List.mem_cons_of_mem _ hy))
    rw [List.length_erase_of_mem hx] at ih
    have : 0 < m.length := List.length_pos_of_mem hx
    rw [List.length_cons]
    omega
theorem good_subs {n : Int} {s : S} (g : Good n s) : s ∈ subs (lamps n) := mem_subs (asc_lamps n) g.1 fun k hk => mem_lamps.mpr (g.2 k hk)
theorem good_few {n : Int} (h7 : n ≤ 7) {l : List S} (hn : l.Nodup) (g : ∀ s ∈ l, Good n s) : l.length ≤ 128 := by
  have h := nodup_le hn fun s hs => good_subs (g s hs)
  rw [length_subs, length_lamps] at h
  have : 2 ^ n.toNat ≤ 2 ^ 7 := Nat.pow_le_pow_right (by omega) (by omega)
  omega
theorem good_len {n : Int} {s : S} (g : Good n s) : s.length ≤ n.toNat := by
  have h := nodup_le (asc_nodup g.1) fun k hk => mem_lamps.mpr (g.2 k hk)
  rw [length_lamps] at h
  exact h
/-- fewest deeds are fewer than the standings -/
theorem isD_few {n : Int} (h7 : n ≤ 7) {R : S → S → Prop} {b s : S} {d : Nat} (hb : Good n b) (hR : ∀ s t, R s t → Good n t) (h : IsD R b s d) : d ≤ 127 := by
  have goodD : ∀ {d : Nat} {s : S}, Pth R d b s → Good n s := by
    intro d s h
    cases d with
    | zero =>
      have h : b = s := h
      exact h ▸ hb
    | succ d =>
      obtain ⟨u, _, r⟩ := h.last
      exact hR u s r
  have all : ∀ (d : Nat) (s : S), IsD R b s d → ∃ l : List S, l.length = d + 1 ∧ l.Nodup ∧ ∀ t ∈ l, ∃ e, e ≤ d ∧ IsD R b t e := by
    intro d
    induction d with
    | zero =>
      intro s h
      refine ⟨[s], rfl, by simp, fun t ht => ⟨0, Nat.le_refl _, ?_⟩⟩
      have e : t = s := by simpa using ht
      exact e ▸ h
    | succ d ih =>
      intro s h
      obtain ⟨u, hu, _⟩ := h.prev
      obtain ⟨l, h1, h2, h3⟩ := ih u hu
      refine ⟨s :: l, by simp [h1], List.nodup_cons.mpr ⟨fun hs => ?_, h2⟩, fun t ht => ?_⟩
      · obtain ⟨e, he, q⟩ := h3 s hs
        have := q.uniq h
        omega
      · rcases List.mem_cons.mp ht with z | z
        · exact ⟨d + 1, Nat.le_refl _, z ▸ h⟩
        · obtain ⟨e, he, q⟩ := h3 t z
          exact ⟨e, by omega, q⟩
  obtain ⟨l, h1, h2, h3⟩ := all d s h
  have := good_few h7 h2 fun t ht => by
    obtain ⟨e, _, q⟩ := h3 t ht
    exact goodD q.1
  omega
end PLM

/-! PLMatb -/
set_option linter.all false
namespace PLM

/-! ### words -/
def Wd (ar : Ar) (ok : S → Prop) : S → S → List Int → Prop
  | s, t, [] => s = t
  | s, t, k :: w => canB ar s k = true ∧ ok (tog s k) ∧ Wd ar ok (tog s k) t w
def sline : S → List Int → List S
  | s, [] => [s]
  | s, k :: w => s :: sline (tog s k) w
def lits : S → List Int → List Bool
  | _, [] => []
  | s, k :: w => decide (k ∉ s) :: lits (tog s k) w
def runs : S → List Int → S
  | s, [] => s
  | s, k :: w => runs (tog s k) w
theorem length_sline : ∀ {s : S} {w : List Int}, (sline s w).length = w.length + 1
  | _, [] => rfl
  | s, k :: w => by unfold sline; rw [List.length_cons, length_sline, List.length_cons]
theorem length_lits : ∀ {s : S} {w : List Int}, (lits s w).length = w.length
  | _, [] => rfl
  | s, k :: w => by unfold lits; rw [List.length_cons, length_lits, List.length_cons]
theorem Wd.ends {ar : Ar} {ok : S → Prop} : ∀ {w : List Int} {s t : S}, Wd ar ok s t w → runs s w = t
  | [], _, _, h => h
  | k :: w, s, t, ⟨_, _, h⟩ => show runs (tog s k) w = t from Wd.ends h
theorem sline_last : ∀ {w : List Int} {s : S}, (sline s w)[w.length]? = some (runs s w)
  | [], s => rfl
  | k :: w, s => by
    unfold sline runs
    rw [List.length_cons, List.getElem?_cons_succ, sline_last]
theorem sline_head {s : S} {w : List Int} : (sline s w)[0]? = some s := by cases w <;> rfl
theorem sline_ne {s : S} {w : List Int} : sline s w ≠ [] := by cases w <;> (unfold sline; exact List.cons_ne_nil _ _)
theorem runs_snoc : ∀ {w : List Int} {s : S} {k : Int}, runs s (w ++ [k]) = tog (runs s w) k
  | [], s, k => rfl
  | j :: w, s, k => by
    show runs (tog s j) (w ++ [k]) = _
    rw [runs_snoc]
    rfl
theorem sline_snoc : ∀ {w : List Int} {s : S} {k : Int}, sline s (w ++ [k]) = sline s w ++ [tog (runs s w) k]
  | [], s, k => rfl
  | j :: w, s, k => by
    show s :: sline (tog s j) (w ++ [k]) = _
    rw [sline_snoc]
    rfl
theorem lits_snoc : ∀ {w : List Int} {s : S} {k : Int}, lits s (w ++ [k]) = lits s w ++ [decide (k ∉ runs s w)]
  | [], s, k => rfl
  | j :: w, s, k => by
    show decide (j ∉ s) :: lits (tog s j) (w ++ [k]) = _
    rw [lits_snoc]
    rfl
/-- the i-th standing of the line, the i-th deed -/
theorem sline_take {w : List Int} {s : S} : ∀ {i : Nat}, i ≤ w.length → (sline s w)[i]? = some (runs s (w.take i)) := by
  induction w generalizing s with
  | nil =>
    intro i hi
    have : i = 0 := by simpa using hi
    subst this
    rfl
  | cons k w ih =>
    intro i hi
    cases i with
    | zero => rfl
    | succ i =>
      show (sline (tog s k) w)[i]? = some (runs (tog s k) (w.take i))
      exact ih (by simpa using hi)
theorem Wd.can {ar : Ar} {ok : S → Prop} : ∀ {w : List Int} {s t : S} {i : Nat} {k : Int}, Wd ar ok s t w → w[i]? = some k → canB ar (runs s (w.take i)) k = true
  | j :: w, s, t, 0, k, ⟨h, _, _⟩, e => by
    have e : j = k := by simpa using e
    exact e ▸ h
  | j :: w, s, t, i + 1, k, ⟨_, _, h⟩, e => Wd.can (i := i) h (by simpa using e)
theorem Wd.ok_at {ar : Ar} {ok : S → Prop} : ∀ {w : List Int} {s t : S}, Wd ar ok s t w → ok s → ∀ u ∈ sline s w, ok u
  | [], s, t, _, o, u, hu => by
    have : u = s := by simpa [sline] using hu
    exact this ▸ o
  | k :: w, s, t, ⟨_, o', h⟩, o, u, hu => by
    unfold sline at hu
    rcases List.mem_cons.mp hu with e | e
    · exact e ▸ o
    · exact Wd.ok_at h o' u e
theorem Wd.snoc {ar : Ar} {ok : S → Prop} : ∀ {w : List Int} {s t : S} {k : Int}, Wd ar ok s t w → canB ar t k = true → ok (tog t k) → Wd ar ok s (tog t k) (w ++ [k])
  | [], s, t, k, h, c, o => by
    have h : s = t := h
    subst h
    exact ⟨c, o, rfl⟩
  | j :: w, s, t, k, ⟨h1, h2, h3⟩, c, o => ⟨h1, h2, Wd.snoc h3 c o⟩
theorem Wd.pth {n : Int} {ar : Ar} {ok : S → Prop} (W : GW n ar) : ∀ {w : List Int} {s t : S}, Good n s → ok s → Wd ar ok s t w → Pth (Rl n ar ok) w.length s t
  | [], s, t, _, _, h => h
  | k :: w, s, t, g, o, ⟨c, o', h⟩ => by
    have r := can_rng W g c
    have g' := good_tog g r.1 r.2
    exact ⟨_, ⟨g, g', o, o', k, c, rfl⟩, Wd.pth W g' o' h⟩
theorem Wd.imp {ar : Ar} {ok ok' : S → Prop} (ho : ∀ s, ok s → ok' s) : ∀ {w : List Int} {s t : S}, Wd ar ok s t w → Wd ar ok' s t w
  | [], s, t, h => h
  | k :: w, s, t, ⟨c, o', h⟩ => ⟨c, ho _ o', Wd.imp ho h⟩
theorem Wd.rng {n : Int} {ar : Ar} {ok : S → Prop} (W : GW n ar) : ∀ {w : List Int} {s t : S}, Good n s → Wd ar ok s t w → ∀ k ∈ w, 0 ≤ k ∧ k < n
  | j :: w, s, t, g, ⟨c, _, h⟩, k, hk => by
    have r := can_rng W g c
    rcases List.mem_cons.mp hk with e | e
    · exact e ▸ r
    · exact Wd.rng W (good_tog g r.1 r.2) h k e
theorem runs_good {n : Int} : ∀ {w : List Int} {s : S}, Good n s → (∀ k ∈ w, 0 ≤ k ∧ k < n) → Good n (runs s w)
  | [], s, g, _ => g
  | k :: w, s, g, h => runs_good (w := w) (good_tog g (h k (by simp)).1 (h k (by simp)).2) fun j hj => h j (List.mem_cons_of_mem _ hj)
theorem sline_good {n : Int} : ∀ {w : List Int} {s : S}, Good n s → (∀ k ∈ w, 0 ≤ k ∧ k < n) → ∀ u ∈ sline s w, Good n u
  | [], s, g, _, u, hu => by
    have : u = s := by simpa [sline] using hu
    exact this ▸ g
  | k :: w, s, g, h, u, hu => by
    unfold sline at hu
    rcases List.mem_cons.mp hu with e | e
    · exact e ▸ g
    · exact sline_good (w := w) (good_tog g (h k (by simp)).1 (h k (by simp)).2) (fun j hj => h j (List.mem_cons_of_mem _ hj)) u e

/-- the lamps that are lit and put out -/
theorem lits_count {ar : Ar} {ok : S → Prop} : ∀ {w : List Int} {s t : S}, s.Pairwise (· < ·) → Wd ar ok s t w → 2 * ((lits s w).count true : Int) - (w.length : Int) = (t.length : Int) - (s.length : Int)
  | [], s, t, _, h => by
    have h : s = t := h
    subst h
    simp [lits]
  | k :: w, s, t, a, ⟨c, _, h⟩ => by
    have ih := lits_count (asc_tog (k := k) a) h
    unfold lits
    rw [List.count_cons, List.length_cons]
    by_cases e : k ∈ s
    · have q := length_tog_in a e
      simp [e]
      omega
    · have q := length_tog_out e
      simp [e]
      omega

/-! ### lamps that differ -/
def differ (n : Int) (s t : S) : S := (lamps n).filter fun k => decide (k ∈ s) != decide (k ∈ t)
theorem filter_flip {p q : Int → Bool} {x : Int} : ∀ {l : S}, l.Nodup → x ∈ l → (∀ y, y ≠ x → p y = q y) → p x ≠ q x →
    (l.filter p).length = (l.filter q).length + 1 ∨ (l.filter p).length + 1 = (l.filter q).length
  | y :: l, hn, hx, h, hd => by
    have hn' := List.nodup_cons.mp hn
    by_cases e : y = x
    · subst e
      have same : l.filter p = l.filter q := List.filter_congr fun z hz => h z fun e => hn'.1 (e ▸ hz)
      rw [List.filter_cons, List.filter_cons, same]
      cases hp : p y <;> cases hq : q y
      · exact absurd (hp.trans hq.symm) hd
      · right; simp
      · left; simp
      · exact absurd (hp.trans hq.symm) hd
    · have ih := filter_flip (l := l) hn'.2 ((List.mem_cons.mp hx).resolve_left fun z => e z.symm) h hd
      rw [List.filter_cons, List.filter_cons, h y e]
      cases q y <;> simp <;> omega
theorem differ_self {n : Int} {s : S} : (differ n s s).length = 0 := by
  unfold differ
  rw [List.length_eq_zero_iff, List.filter_eq_nil_iff]
  intro a _
  simp
theorem differ_tog {n : Int} {s t : S} {k : Int} (h0 : 0 ≤ k) (h1 : k < n) : (differ n s t).length = (differ n (tog s k) t).length + 1 ∨ (differ n s t).length + 1 = (differ n (tog s k) t).length := by
  refine filter_flip (asc_nodup (asc_lamps n)) (mem_lamps.mpr ⟨h0, h1⟩) (fun y hy => ?_) ?_
  · have e : decide (y ∈ tog s k) = decide (y ∈ s) := decide_eq_decide.mpr (mem_tog_ne hy)
    rw [e]
  · have e : decide (k ∈ tog s k) = !decide (k ∈ s) := by
      rw [← decide_not]
      exact decide_eq_decide.mpr mem_tog_self
    rw [e]
    cases decide (k ∈ s) <;> cases decide (k ∈ t) <;> simp
theorem pth_differ {n : Int} {ar : Ar} {ok : S → Prop} (W : GW n ar) : ∀ {m : Nat} {s t : S}, Pth (Rl n ar ok) m s t → (differ n s t).length ≤ m ∧ (m - (differ n s t).length) % 2 = 0
  | 0, s, t, h => by
    have h : s = t := h
    subst h
    rw [differ_self]
    simp
  | m + 1, s, t, ⟨u, ⟨g, _, _, _, k, c, e⟩, h⟩ => by
    subst e
    have ih := pth_differ W h
    have r := can_rng W g c
    rcases differ_tog (s := s) (t := t) r.1 r.2 with q | q <;> omega

/-! ### which standings can come -/
inductive Lead (ar : Ar) : Int → Int → Prop
  | refl (a : Int) : Lead ar a a
  | step {a b c : Int} : Lead ar a b → (b, c) ∈ ar → Lead ar a c
theorem Lead.trans {ar : Ar} {a b c : Int} (h : Lead ar a b) (h' : Lead ar b c) : Lead ar a c := by
  induction h' with
  | refl => exact h
  | step _ e ih => exact ih.step e
theorem Lead.head {ar : Ar} {a b c : Int} (e : (a, b) ∈ ar) (h : Lead ar b c) : Lead ar a c := ((Lead.refl a).step e).trans h
theorem Lead.turn {ar ar' : Ar} (T : Turn ar ar') {a b : Int} (h : Lead ar a b) : Lead ar' b a := by
  induction h with
  | refl => exact .refl _
  | step _ e ih => exact Lead.head ((T _ _).mpr e) ih
theorem Lead.cut {ar : Ar} {s : S} {a x : Int} (h : Lead ar a x) (ha : a ∈ s) (hx : x ∉ s) : ∃ u v, (u, v) ∈ ar ∧ u ∈ s ∧ v ∉ s ∧ Lead ar a v ∧ Lead ar v x := by
  induction h with
  | refl => exact absurd ha hx
  | @step b c h e ih =>
    by_cases hb : b ∈ s
    · exact ⟨b, c, e, hb, hx, h.step e, .refl _⟩
    · obtain ⟨u, v, h1, h2, h3, h4, h5⟩ := ih hb
      exact ⟨u, v, h1, h2, h3, h4, h5.step e⟩
def Fwd (ar : Ar) (one other : S) : Prop := ∀ k ∈ other, ∃ a ∈ one, Lead ar a k
def Comes (ar : Ar) (one other : S) : Prop := Fwd ar one other ∧ ∀ k ∈ one, ∃ b ∈ other, Lead ar k b
theorem comes_of {n : Int} {ar : Ar} {ok : S → Prop} (W : GW n ar) : ∀ {m : Nat} {s t : S}, Pth (Rl n ar ok) m s t → Comes ar s t
  | 0, s, t, h => by
    have h : s = t := h
    subst h
    exact ⟨fun k hk => ⟨k, hk, .refl _⟩, fun k hk => ⟨k, hk, .refl _⟩⟩
  | m + 1, s, t, ⟨u, ⟨g, _, _, _, k, c, e⟩, h⟩ => by
    subst e
    obtain ⟨h1, h2⟩ := comes_of W h
    refine ⟨fun j hj => ?_, fun j hj => ?_⟩
    · obtain ⟨a, ha, l⟩ := h1 j hj
      by_cases e : a = k
      · subst e
        have hk := mem_tog_self.mp ha
        obtain ⟨b, hb, hs⟩ := (can_out hk).mp c
        exact ⟨b, hs, Lead.head hb l⟩
      · exact ⟨a, (mem_tog_ne e).mp ha, l⟩
    · by_cases e : j = k
      · subst e
        obtain ⟨b, hb, hs⟩ := (can_in hj).mp c
        have ne : b ≠ j := fun z => (W.rng _ hb).2.2 z.symm
        obtain ⟨d, hd, l⟩ := h2 b ((mem_tog_ne ne).mpr hs)
        exact ⟨d, hd, Lead.head hb l⟩
      · exact h2 j ((mem_tog_ne e).mpr hj)
/-- lighting alone within the lamps M -/
theorem light_up {n : Int} {ar : Ar} (W : GW n ar) {M : S} (gM : Good n M) (one : S) (hc : ∀ u v, (u, v) ∈ ar → u ∈ M → (∃ x ∈ M, Lead ar v x) → v ∈ M) (hM : ∀ x ∈ M, ∃ a ∈ one, Lead ar a x) :
    ∀ (d : Nat) (s : S), Good n s → (∀ k ∈ s, k ∈ M) → (∀ k ∈ one, k ∈ s) → M.length - s.length ≤ d → ∃ m, Pth (Rl n ar fun _ => True) m s M := by
  intro d
  induction d with
  | zero =>
    intro s g sub ho hd
    refine ⟨0, ?_⟩
    show s = M
    refine asc_ext g.1 gM.1 fun k => ⟨sub k, fun hk => Classical.byContradiction fun hn => ?_⟩
    have h := nodup_le (l := k :: s) (m := M) (List.nodup_cons.mpr ⟨hn, asc_nodup g.1⟩) fun y hy => by
      rcases List.mem_cons.mp hy with e | e
      · exact e ▸ hk
      · exact sub y e
    rw [List.length_cons] at h
    omega
  | succ d ih =>
    intro s g sub ho hd
    by_cases q : ∀ k ∈ M, k ∈ s
    · exact ⟨0, asc_ext g.1 gM.1 fun k => ⟨sub k, q k⟩⟩
    · obtain ⟨x, hx⟩ := Classical.not_forall.mp q
      obtain ⟨hx, hn⟩ := Classical.not_imp.mp hx
      obtain ⟨a, ha, l⟩ := hM x hx
      obtain ⟨u, v, e, hu, hv, _, l2⟩ := l.cut (ho a ha) hn
      have vM : v ∈ M := hc u v e (sub u hu) ⟨x, hx, l2⟩
      have gv := gM.2 v vM
      have g' := good_tog g gv.1 gv.2
      obtain ⟨m, hm⟩ := ih (tog s v) g' (fun k hk => by
        by_cases z : k = v
        · exact z ▸ vM
        · exact sub k ((mem_tog_ne z).mp hk)) (fun k hk => by
        by_cases z : k = v
        · subst z; exact absurd (ho k hk) hv
        · exact (mem_tog_ne z).mpr (ho k hk)) (by rw [length_tog_out hv]; omega)
      exact ⟨m + 1, _, ⟨g, g', trivial, trivial, v, (can_out hv).mpr ⟨u, e, hu⟩, rfl⟩, hm⟩
theorem reach_of {n : Int} {ar ar' : Ar} (W : GW n ar) (W' : GW n ar') (T : Turn ar ar') {one other : S} (g1 : Good n one) (g2 : Good n other) (h : Comes ar one other) : ∃ m, Pth (Rl n ar fun _ => True) m one other := by
  classical
  let M : S := (lamps n).filter fun k => decide ((∃ a ∈ one, Lead ar a k) ∧ ∃ b ∈ other, Lead ar k b)
  have mM : ∀ k, k ∈ M ↔ (0 ≤ k ∧ k < n) ∧ (∃ a ∈ one, Lead ar a k) ∧ ∃ b ∈ other, Lead ar k b := fun k => by
    show k ∈ (lamps n).filter _ ↔ _
    rw [List.mem_filter, mem_lamps, decide_eq_true_eq]
  have gM : Good n M := ⟨(asc_lamps n).filter _, fun k hk => ((mM k).mp hk).1⟩
  have o1 : ∀ k ∈ one, k ∈ M := fun k hk => (mM k).mpr ⟨g1.2 k hk, ⟨k, hk, .refl _⟩, h.2 k hk⟩
  have o2 : ∀ k ∈ other, k ∈ M := fun k hk => (mM k).mpr ⟨g2.2 k hk, h.1 k hk, ⟨k, hk, .refl _⟩⟩
  obtain ⟨m1, p1⟩ := light_up W gM one (fun u v e hu hx => by
    obtain ⟨x, hx, l⟩ := hx
    obtain ⟨_, ⟨a, ha, la⟩, _⟩ := (mM u).mp hu
    obtain ⟨_, _, b, hb, lb⟩ := (mM x).mp hx
    exact (mM v).mpr ⟨(W.rng _ e).2.1, ⟨a, ha, la.step e⟩, ⟨b, hb, l.trans lb⟩⟩) (fun x hx => ((mM x).mp hx).2.1) _ one g1 o1 (fun _ h => h) (Nat.le_refl _)
  obtain ⟨m2, p2⟩ := light_up W' gM other (fun u v e hu hx => by
    obtain ⟨x, hx, l⟩ := hx
    obtain ⟨_, _, b, hb, lb⟩ := (mM u).mp hu
    obtain ⟨_, ⟨a, ha, la⟩, _⟩ := (mM x).mp hx
    refine (mM v).mpr ⟨(W'.rng _ e).2.1, ⟨a, ha, la.trans (l.turn T.symm)⟩, ⟨b, hb, Lead.head ((T u v).mp e) lb⟩⟩) (fun x hx => by
    obtain ⟨_, _, b, hb, lb⟩ := (mM x).mp hx
    exact ⟨b, hb, lb.turn T⟩) _ other g2 o2 (fun _ h => h) (Nat.le_refl _)
  exact ⟨m1 + m2, p1.add (p2.turn W' T.symm)⟩
theorem reach_iff {n : Int} {ar ar' : Ar} (W : GW n ar) (W' : GW n ar') (T : Turn ar ar') {one other : S} (g1 : Good n one) (g2 : Good n other) : (∃ m, Pth (Rl n ar fun _ => True) m one other) ↔ Comes ar one other :=
  ⟨fun ⟨_, h⟩ => comes_of W h, reach_of W W' T g1 g2⟩
end PLM

/-! PLMatc -/
set_option linter.all false
namespace PLM
/-! ### the search for all lamps ahead -/
structure LF (n : Int) (ar : Ar) (s fo ro : S) : Prop where
  nd : fo.Nodup
  rng : ∀ x ∈ fo, 0 ≤ x ∧ x < n
  sub : ∀ x ∈ s, x ∈ fo
  lead : ∀ x ∈ fo, ∃ a ∈ s, Lead ar a x
  rows : ∀ x ∈ ro, x ∈ fo
  rnd : ro.Nodup
theorem LF.start {n : Int} {ar : Ar} {s : S} (g : Good n s) : LF n ar s s s := ⟨asc_nodup g.1, g.2, fun _ h => h, fun x h => ⟨x, h, .refl _⟩, fun _ h => h, asc_nodup g.1⟩
theorem LF.len {n : Int} {ar : Ar} {s fo ro : S} (L : LF n ar s fo ro) : fo.length ≤ n.toNat := by
  have h := nodup_le L.nd fun k hk => mem_lamps.mpr (L.rng k hk)
  rw [length_lamps] at h
  exact h
theorem LF.pop {n : Int} {ar : Ar} {s fo ro : S} (L : LF n ar s fo ro) : LF n ar s fo ro.dropLast := ⟨L.nd, L.rng, L.sub, L.lead, fun x h => L.rows x (List.dropLast_subset _ h), (List.dropLast_sublist _).nodup L.rnd⟩
theorem LF.push {n : Int} {ar : Ar} {s fo ro : S} {x y : Int} (W : GW n ar) (L : LF n ar s fo ro) (hx : x ∈ fo) (e : (x, y) ∈ ar) (hy : y ∉ fo) : LF n ar s (fo ++ [y]) (ro ++ [y]) := by
  refine ⟨List.nodup_append.mpr ⟨L.nd, by simp, fun a ha b hb q => ?_⟩, fun z hz => ?_, fun z hz => List.mem_append_left _ (L.sub z hz), fun z hz => ?_, fun z hz => ?_, ?_⟩
  · have : b = y := by simpa using hb
    subst this; subst q
    exact hy ha
  · rcases List.mem_append.mp hz with h | h
    · exact L.rng z h
    · have : z = y := by simpa using h
      subst this
      exact (W.rng _ e).2.1
  · rcases List.mem_append.mp hz with h | h
    · exact L.lead z h
    · have : z = y := by simpa using h
      subst this
      obtain ⟨a, ha, l⟩ := L.lead x hx
      exact ⟨a, ha, l.step e⟩
  · rcases List.mem_append.mp hz with h | h
    · exact List.mem_append_left _ (L.rows z h)
    · exact List.mem_append_right _ h
  · refine List.nodup_append.mpr ⟨L.rnd, by simp, fun a ha b hb q => ?_⟩
    have : b = y := by simpa using hb
    subst this; subst q
    exact hy (L.rows _ ha)
theorem LF.rlen {n : Int} {ar : Ar} {s fo ro : S} (L : LF n ar s fo ro) : ro.length ≤ n.toNat := by
  have h := nodup_le L.rnd fun k hk => mem_lamps.mpr (L.rng k (L.rows k hk))
  rw [length_lamps] at h
  exact h
theorem LF.fin {n : Int} {ar : Ar} {s fo : S} (L : LF n ar s fo []) (c : ∀ x ∈ fo, x ∉ ([] : S) → ∀ y, (x, y) ∈ ar → y ∈ fo) : ∀ x, x ∈ fo ↔ ∃ a ∈ s, Lead ar a x := fun x => by
  have all : ∀ {a x : Int}, Lead ar a x → a ∈ s → x ∈ fo := by
    intro a x l ha
    induction l with
    | refl => exact L.sub _ ha
    | step _ e ih => exact c _ ih (by simp) _ e
  exact ⟨L.lead x, fun ⟨a, ha, l⟩ => all l ha⟩
theorem mem_split_last {ro : S} {h : Int} (e : ro[ro.length - 1]? = some h) : ∀ x, x ∈ ro ↔ x ∈ ro.dropLast ∨ x = h := by
  have ne : ro ≠ [] := fun z => by subst z; simp at e
  have hl : ro.getLast ne = h := by
    rw [List.getLast_eq_getElem]
    exact (List.getElem?_eq_some_iff.mp e).2
  intro x
  conv => lhs; rw [← List.dropLast_concat_getLast ne]
  rw [List.mem_append, hl]
  simp
theorem perm_asc {l m : S} (hp : l.Perm m) (hs : l.Pairwise (· ≤ ·)) (hn : m.Nodup) : l.Pairwise (· < ·) := asc_of_le hs (hp.nodup_iff.mpr hn)
/-- the turned arrows, ordered -/
theorem GW.turn {n : Int} {ar ar' : Ar} (W : GW n ar) (hp : ar'.Perm (ar.map fun e => (e.2, e.1))) (hs : ar'.Pairwise ltA) : GW n ar' ∧ Turn ar ar' := by
  have mem : ∀ a b, (a, b) ∈ ar' ↔ (b, a) ∈ ar := fun a b => by
    rw [hp.mem_iff, List.mem_map]
    constructor
    · rintro ⟨e, he, q⟩
      cases q
      exact he
    · intro h
      exact ⟨(b, a), h, rfl⟩
  refine ⟨⟨W.n1, W.n7, fun e he => ?_, hs, ?_⟩, mem⟩
  · have q := W.rng _ ((mem e.1 e.2).mp he)
    exact ⟨q.2.1, q.1, fun z => q.2.2 z.symm⟩
  · rw [hp.length_eq, List.length_map]
    exact W.len
theorem code_lt {e f : Int × Int} {n : Int} (hn : n ≤ 7) (he : (0 ≤ e.1 ∧ e.1 < n) ∧ 0 ≤ e.2 ∧ e.2 < n) (hf : (0 ≤ f.1 ∧ f.1 < n) ∧ 0 ≤ f.2 ∧ f.2 < n) (h : e.1 * 64 + e.2 ≤ f.1 * 64 + f.2) (ne : e ≠ f) : ltA e f := by
  obtain ⟨a, b⟩ := e
  obtain ⟨c, d⟩ := f
  simp only at he hf h
  show a < c ∨ (a = c ∧ b < d)
  by_cases h1 : a < c
  · exact .inl h1
  · have h2 : a = c := by omega
    subst h2
    refine .inr ⟨rfl, ?_⟩
    have : b ≠ d := fun z => ne (by rw [z])
    omega
end PLM

/-! PLMatd -/
set_option linter.all false
namespace PLM
/-! ### distances to an end; how many words -/
theorem IsD.rev {R R' : S → S → Prop} (h1 : ∀ s t, R s t → R' t s) (h2 : ∀ s t, R' s t → R t s) {b s : S} {d : Nat} (h : IsD R b s d) : IsD R' s b d :=
  ⟨h.1.rev h1, fun m hm => h.2 m (hm.rev h2)⟩
theorem IsD.turn {n : Int} {ar ar' : Ar} {ok : S → Prop} (W : GW n ar) (W' : GW n ar') (T : Turn ar ar') {b s : S} {d : Nat} (h : IsD (Rl n ar ok) b s d) : IsD (Rl n ar' ok) s b d :=
  h.rev (fun _ _ r => r.turn W T) (fun _ _ r => r.turn W' T.symm)
/-- f tells how far each is from t -/
structure DT (R : S → S → Prop) (t : S) (f : List (S × Int)) : Prop where
  nd : (f.map (·.1)).Nodup
  all : ∀ s z, (s, z) ∈ f ↔ ∃ d : Nat, z = (d : Int) ∧ IsD R s t d
theorem DM.turn {n : Int} {ar ar' : Ar} {ok : S → Prop} (W : GW n ar) (W' : GW n ar') (T : Turn ar ar') {t : S} {f : List (S × Int)} (D : DM (Rl n ar' ok) t f) : DT (Rl n ar ok) t f :=
  ⟨D.nd, fun s z => (D.all s z).trans ⟨fun ⟨d, e, h⟩ => ⟨d, e, h.turn W' W T.symm⟩, fun ⟨d, e, h⟩ => ⟨d, e, h.turn W W' T⟩⟩⟩
theorem isD_down {n : Int} {ar : Ar} {ok : S → Prop} (W : GW n ar) {u t : S} {e : Nat} (h : IsD (Rl n ar ok) u t (e + 1)) : ∃ k, canB ar u k = true ∧ k ∈ doab n ar u ∧ IsD (Rl n ar ok) (tog u k) t e := by
  obtain ⟨v, r, p⟩ := h.1
  obtain ⟨gu, gv, ou, ov, k, ck, rfl⟩ := r
  refine ⟨k, ck, (mem_doab W gu).mpr ck, p, fun m hm => ?_⟩
  have := h.2 (m + 1) ⟨_, ⟨gu, gv, ou, ov, k, ck, rfl⟩, hm⟩
  omega
theorem isD_ok {n : Int} {ar : Ar} {ok : S → Prop} {u t : S} {e : Nat} (h : IsD (Rl n ar ok) u t e) (ht : ok t) : ok u := by
  cases e with
  | zero => exact (show u = t from h.1) ▸ ht
  | succ e => exact (let ⟨_, r, _⟩ := h.1; r.2.2.1)
theorem isD_neq {R : S → S → Prop} {u t : S} {e : Nat} (h : IsD R u t e) : u = t ↔ e = 0 := by
  constructor
  · intro z
    have := h.2 0 (show u = t from z)
    omega
  · rintro rfl
    exact h.1
/-! the count -/
theorem sum_nonneg : ∀ {l : List Int}, (∀ x ∈ l, 0 ≤ x) → 0 ≤ l.sum
  | [], _ => by simp
  | x :: l, h => by
    have h1 := h x (by simp)
    have h2 := sum_nonneg fun y hy => h y (List.mem_cons_of_mem _ hy)
    rw [List.sum_cons]
    omega
theorem sum_pos : ∀ {l : List Int} {x : Int}, (∀ x ∈ l, 0 ≤ x) → x ∈ l → 0 < x → 0 < l.sum
  | y :: l, x, h, m, p => by
    have h1 := h y (by simp)
    have h2 := sum_nonneg (l := l) fun z hz => h z (List.mem_cons_of_mem _ hz)
    rw [List.sum_cons]
    rcases List.mem_cons.mp m with rfl | m
    · omega
    · have := sum_pos (fun z hz => h z (List.mem_cons_of_mem _ hz)) m p
      omega
theorem sum_ne : ∀ {l : List Int}, l.sum ≠ 0 → ∃ x ∈ l, x ≠ 0
  | [], h => (h (by simp)).elim
  | x :: l, h => by
    by_cases e : x = 0
    · rw [List.sum_cons, e, Int.zero_add] at h
      obtain ⟨y, hy, hn⟩ := sum_ne h
      exact ⟨y, List.mem_cons_of_mem _ hy, hn⟩
    · exact ⟨x, by simp, e⟩
def cw (n : Int) (ar : Ar) (t : S) : Nat → S → Int
  | 0, u => if u = t then 1 else 0
  | m + 1, u => ((doab n ar u).map fun k => cw n ar t m (tog u k)).sum
theorem cw_nonneg {n : Int} {ar : Ar} {t : S} : ∀ (m : Nat) (u : S), 0 ≤ cw n ar t m u
  | 0, u => by unfold cw; split <;> omega
  | m + 1, u => by
    unfold cw
    refine sum_nonneg fun x hx => ?_
    obtain ⟨k, _, rfl⟩ := List.mem_map.mp hx
    exact cw_nonneg m _
theorem cw_pth {n : Int} {ar : Ar} (W : GW n ar) {t : S} : ∀ {m : Nat} {u : S}, Good n u → cw n ar t m u ≠ 0 → Pth (Rl n ar fun _ => True) m u t
  | 0, u, _, h => by
    unfold cw at h
    split at h
    · assumption
    · exact absurd rfl h
  | m + 1, u, g, h => by
    unfold cw at h
    obtain ⟨x, hx, hn⟩ := sum_ne h
    obtain ⟨k, hk, rfl⟩ := List.mem_map.mp hx
    have ck := (mem_doab W g).mp hk
    have kr := can_rng W g ck
    have gt := good_tog g kr.1 kr.2
    exact ⟨_, ⟨g, gt, trivial, trivial, k, ck, rfl⟩, cw_pth W gt hn⟩
theorem cw_pos {n : Int} {ar : Ar} (W : GW n ar) {t : S} : ∀ {m : Nat} {u : S}, Pth (Rl n ar fun _ => True) m u t → 0 < cw n ar t m u
  | 0, u, h => by
    unfold cw
    rw [if_pos (show u = t from h)]
    decide
  | m + 1, u, ⟨v, ⟨gu, gv, _, _, k, ck, e⟩, p⟩ => by
    subst e
    unfold cw
    refine sum_pos (fun x hx => ?_) (List.mem_map_of_mem ((mem_doab W gu).mpr ck)) (cw_pos W p)
    obtain ⟨k, _, rfl⟩ := List.mem_map.mp hx
    exact cw_nonneg m _
/-- what a sum over entries comes to -/
def sm (φ : S → Int) (f : List (S × Int)) : Int := (f.map fun e => e.2 * φ e.1).sum
def fset : List (S × Int) → S → Int → List (S × Int)
  | [], t, z => [(t, z)]
  | e :: f, t, z => if e.1 = t then (t, z) :: f else e :: fset f t z
theorem mem_fset {s t : S} {z : Int} : ∀ {f : List (S × Int)}, s ∈ (fset f t z).map (·.1) ↔ s ∈ f.map (·.1) ∨ s = t
  | [] => by simp [fset]
  | e :: f => by
    unfold fset
    by_cases h : e.1 = t
    · rw [if_pos h]
      simp only [List.map_cons, List.mem_cons]
      constructor
      · rintro (h1 | h1)
        · exact .inr h1
        · exact .inl (.inr h1)
      · rintro ((h1 | h1) | h1)
        · exact .inl (h1.trans h)
        · exact .inr h1
        · exact .inl h1
    · rw [if_neg h]
      simp only [List.map_cons, List.mem_cons, mem_fset (f := f)]
      constructor
      · rintro (h1 | h1 | h1)
        · exact .inl (.inl h1)
        · exact .inl (.inr h1)
        · exact .inr h1
      · rintro ((h1 | h1) | h1)
        · exact .inl h1
        · exact .inr (.inl h1)
        · exact .inr (.inr h1)
theorem nd_fset {t : S} {z : Int} : ∀ {f : List (S × Int)}, (f.map (·.1)).Nodup → ((fset f t z).map (·.1)).Nodup
  | [], _ => by simp [fset]
  | e :: f, h => by
    unfold fset
    rw [List.map_cons, List.nodup_cons] at h
    by_cases c : e.1 = t
    · rw [if_pos c, List.map_cons, List.nodup_cons]
      exact ⟨c ▸ h.1, h.2⟩
    · rw [if_neg c, List.map_cons, List.nodup_cons]
      exact ⟨fun m => (mem_fset.mp m).elim h.1 c, nd_fset h.2⟩
def wt : List (S × Int) → S → Int
  | [], _ => 0
  | e :: f, t => if e.1 = t then e.2 else wt f t
theorem sm_fset {φ : S → Int} {t : S} {z : Int} : ∀ {f : List (S × Int)}, sm φ (fset f t (wt f t + z)) = sm φ f + z * φ t
  | [] => by simp [sm, fset, wt]
  | e :: f => by
    unfold fset wt
    by_cases c : e.1 = t
    · rw [if_pos c, if_pos c]
      simp only [sm, List.map_cons, List.sum_cons, c, Int.add_mul]
      omega
    · rw [if_neg c, if_neg c]
      have ih := sm_fset (φ := φ) (t := t) (z := z) (f := f)
      simp only [sm, List.map_cons, List.sum_cons] at ih ⊢
      omega
theorem sm_none {t : S} : ∀ {f : List (S × Int)}, t ∉ f.map (·.1) → sm (fun u => if u = t then 1 else 0) f = 0 ∧ wt f t = 0
  | [], _ => by simp [sm, wt]
  | e :: f, h => by
    rw [List.map_cons, List.mem_cons, not_or] at h
    obtain ⟨h1, h2⟩ := sm_none h.2
    simp only [sm] at h1
    simp [sm, wt, h1, h2, Ne.symm h.1]
theorem sm_at {t : S} : ∀ {f : List (S × Int)}, (f.map (·.1)).Nodup → sm (fun u => if u = t then 1 else 0) f = wt f t
  | [], _ => by simp [sm, wt]
  | e :: f, h => by
    rw [List.map_cons, List.nodup_cons] at h
    by_cases c : e.1 = t
    · have := (sm_none (c ▸ h.1)).1
      simp only [sm] at this
      simp [sm, wt, c, this]
    · have := sm_at (t := t) h.2
      simp only [sm] at this
      simp [sm, wt, c, this]
end PLM

/-! PLMate -/
set_option linter.all false
namespace PLM
/-! ### what the law asks, plainly -/
theorem fdiv_lit {d L m : Int} (h : 2 * L - d = m) : (d + m).fdiv 2 = L ∧ (d - m).fdiv 2 = d - L := by
  rw [Int.fdiv_eq_ediv_of_nonneg _ (by decide), Int.fdiv_eq_ediv_of_nonneg _ (by decide)]
  omega
theorem filter_last : ∀ {w : List Int} {s : S} {p : S → Bool}, p (runs s w) = true → 1 ≤ ((sline s w).filter p).length := by
  intro w s p h
  have m : runs s w ∈ (sline s w).filter p := List.mem_filter.mpr ⟨List.mem_of_getElem? sline_last, h⟩
  exact List.length_pos_of_mem m
theorem filter_two {w : List Int} {s : S} {p : S → Bool} (h0 : p s = true) (h1 : p (runs s w) = true) (hw : w ≠ []) : 2 ≤ ((sline s w).filter p).length := by
  match w, hw with
  | k :: w, _ =>
    have := filter_last (w := w) (s := tog s k) (p := p) h1
    unfold sline
    rw [List.filter_cons, if_pos h0, List.length_cons]
    omega
theorem Wd.ofline {ar : Ar} {ok ok' : S → Prop} : ∀ {w : List Int} {s t : S}, Wd ar ok s t w → (∀ u ∈ sline s w, ok' u) → Wd ar ok' s t w
  | [], _, _, h, _ => h
  | k :: w, s, t, ⟨h1, _, h3⟩, a => by
    unfold sline at a
    refine ⟨h1, a _ (List.mem_cons_of_mem _ ?_), h3.ofline fun u hu => a u (List.mem_cons_of_mem _ hu)⟩
    cases w <;> (unfold sline; exact List.mem_cons_self)
end PLM

/-! PLRa -/
set_option Elab.async false
set_option linter.all false
set_option maxRecDepth 100000
set_option maxHeartbeats 2000000
/-! Rules that this program wants beyond the layer: dicts whose keys are tuples. -/
namespace PLR
open PySem PySem.Spec PyProof.Rows L2
section
variable {X : Cx}
/-- one pair in a display, its key a tuple -/
def tDispT (tk tv : TE) : TE := fun σ H Q => ∀ p, H p = none → tk σ (upd H p (.dT [])) fun x H1 => tv σ H1 fun y H2 =>
  H2 p = some (.dT []) ∧ ∃ b ks, x = .ref b ∧ H2 b = some (.tup (ks.map kV)) ∧ Q (.ref p) (upd H2 p (.dT [(ks, y)]))
theorem pe_dispT {k v : Expr} {tk tv : TE} {pos : Pos} (hu : X.A.units + 1 < cLine) (hk : PE X k tk) (hv : PE X v tv) : PE X (.Dict [some k] [v] pos) (tDispT tk tv) := by
  constructor
  intro pins s σ H Q I q
  have fresh := I.hok.fresh (Nat.le_refl s.heap.objs.size)
  have J : Inv X pins σ (upd H s.heap.objs.size (.dT [])) { s with heap := s.heap.push { cls := .type "dict", data := .dict #[] } } :=
    I.laid (t' := s.toks) (fun _ _ z => Heap.get?_push_of_some _ z) (Nat.le_refl _) (dt_empty s.heap I.big)
  have q := q _ fresh
  rw [arm_eval_Dict, zip_pairTrees [some k] [v] X.env pos rfl rfl, dictDisplay_pairs _ (fun z => by cases z) (by show 1 < 17; decide)]
  refine wpAny_bind (wpAny_standAt (wpAny_bind ?_))
  refine wpAny_subDictH (knd := tupleKind (mixKind X.prog X.w)) (show X.A.units < cLine by omega) (by show 1 ≤ 15; decide) ?_
  refine thn ((pps_cons hk hv pps_nil).run pins _ σ _ (fun ps H2 => match ps with
    | [(x, y)] => H2 s.heap.objs.size = some (.dT []) ∧ ∃ b ks, x = .ref b ∧ H2 b = some (.tup (ks.map kV)) ∧ Q (.ref s.heap.objs.size) (upd H2 s.heap.objs.size (.dT [(ks, y)]))
    | _ => False) J q) ?_
  rintro ws s2 ⟨ps, H2, I2, rel, q2⟩
  match ps, ws, rel, q2 with
  | [(x, y)], [(kv, vv)], .cons ⟨r1, r2⟩ .nil, q2 =>
    obtain ⟨e, b, ks, ex, eb, q2⟩ := q2
    simp only at r1 r2
    subst ex
    obtain rfl : kv = Value.ref b := r1
    obtain ⟨_, hsys, xs, rel0, dd⟩ := dt_of I2.hok e
    cases rel0
    refine ⟨[(ks, b, vv)], ⟨rfl, rfl, key_of I2.hok eb, trivial⟩, dd, fun h' tk' dd' hs => ?_⟩
    refine wpAny_pure ⟨.ref s.heap.objs.size, _, ?_, rfl, q2⟩
    have e1 : storedAllH ([] : List (List Key × Addr × Value)) [(ks, b, vv)] = [(ks, b, vv)] := storedH_new (xs := []) (k := ks) rfl b vv
    rw [e1] at dd'
    obtain ⟨o, es, ep, ho, h2, h3, h4, _, h5⟩ := dd'
    refine d_write I2 (by rw [e]; exact True.intro) hs ⟨o, ho⟩ ⟨by show 1 ≤ sizeLine; decide, hsys, _, .cons ⟨rfl, ?_, r2⟩ .nil, o, es, ep, ho, h2, h3, h4, h5⟩
    rw [upd_ne (ne_of eb e (fun z => nomatch z))]
    exact eb

/-- d.keys(), the keys tuples, walked -/
def iKeysT (td : TE) : TI := fun σ H R => td σ H fun x H1 => ∃ d o kvs, x = .ref d ∧ H1 d = some (.frz o (.dT kvs)) ∧ R (Itkt d o kvs) H1
theorem pi_keysT {tg e : Expr} {td : TE} {apos cpos : Pos} (he : PE X e td) (hbase : attributeBase e "keys" X.env (eval e X.env) = eval e X.env := by rfl) (hline : (apos.endLine == cpos.line) = true := by rfl) :
    PI X tg (.Call (.Attribute e "keys" apos) [] [] cpos) (iKeysT td) := by
  constructor
  intro pins s σ H R I h
  refine wpAny_Call_method (T := "dict") (id := "dict.keys") hbase rfl hline F.plainAttrs_dict F.slot_dict_keys F.type_dict_keys (thn (he.run pins s σ H _ I h) ?_)
  rintro u s1 ⟨x, H1, I1, rx, d, o, kvs, ex, hd, q⟩
  subst ex
  obtain rfl : u = Value.ref d := rx
  obtain ⟨hs, hgd, hx, es, ep, hdt, hsz, _⟩ := I1.frzT hd
  have raw : s1.heap.DictRaw d es ep := ⟨o, hgd, hx, hdt⟩
  refine ⟨raw.typeIs, fun b z => ?_, ?_⟩
  · cases z
    exact ⟨o, hgd, hx.2.1⟩
  have I2 : Inv X pins σ H1 { s1 with heap := s1.heap.push { cls := .type "dict_keys", data := .fields #[.ref d] } } := I1.kept (t' := s1.toks) fun b ob z => Heap.get?_push_of_some _ z
  show wpAny _ _ (callWith cpos (.builtin "dict.keys") [.ref d] [] []) _ X.xe s1
  refine method_meetsIn F.slot_dict_keys F.entry_dict_keys rfl (PySem.evalArgs_none ⟨rfl, raw.typeIs, F.args_dict_keys_1 _, _, meets_dict_keys_raw d hs, ⟨es, ep, raw⟩, ?_⟩)
  refine wpAny_pyIter_keys_raw (d := d) ⟨_, Heap.get?_push_size _ rfl, rfl, rfl⟩ (raw.push _) (pi_one (tk := s1.toks) I2 _ (turn_keysT _ hdt) ⟨_, Heap.get?_push_size _ rfl, rfl, ?_⟩ q)
  rw [hsz] <;> rfl
end
end PLR

/-! PLRb -/
set_option Elab.async false
set_option linter.all false
set_option maxRecDepth 100000
set_option maxHeartbeats 2000000
/-! Rules: d.values() as a view, max and list of it; min of tuples of ints; how often a bool stands in a tuple. -/
namespace PLR
open PySem PySem.Spec PyProof.Rows L2
/-- at p the view of the values of the dict at d -/
def valsO (p d : Addr) : HO := .ext fun h => h.IsValuesView p d
section
variable {X : Cx}
def rValuesT : V → List V → Hp → VK → Prop := fun x xs H Q => ∃ (d : Addr) (kvs : List (List Key × V)), x = .ref d ∧ xs = [] ∧ H d = some (.dT kvs) ∧ ∀ p, H p = none → Q (.ref p) (upd H p (valsO p d))
theorem mt_valuesT : MtR X "dict.values" rValuesT := by
  rintro pins s σ H x xs v us Q I rx rxs ⟨d, kvs, rfl, rfl, hd, q⟩
  cases rx
  cases rxs
  obtain ⟨z, hs, xs', rel, o, es, ep, ho, hx, hdat, _⟩ := dt_of I.hok hd
  have raw : s.heap.DictRaw d es ep := ⟨o, ho, hx, hdat⟩
  refine call_meetsIn F.slot_dict_values raw.typeIs F.entry_dict_values (F.args_dict_values_1 _) (meets_dict_values_raw d hs) ⟨⟨es, ep, raw⟩, ?_⟩
  have e : (s.heap.push { cls := .type "dict_values", data := .fields #[.ref d] }).get? s.heap.objs.size = some { cls := .type "dict_values", data := .fields #[.ref d] } := Heap.get?_push_size _ rfl
  refine ⟨.ref s.heap.objs.size, _, I.laid (t' := s.toks) (o := valsO s.heap.objs.size d) (fun b u z => Heap.get?_push_of_some _ z) (Nat.le_refl _) ?_, rfl, q _ (I.hok.fresh (Nat.le_refl _))⟩
  exact ⟨⟨_, e, rfl, rfl⟩, ⟨_, e⟩, fun h1 h2 y k => let ⟨o, ho, r⟩ := y; ⟨o, k o ho, r⟩⟩
/-- the entries' values, as they stand in the heap -/
theorem vals_at {pins : List (Addr × Obj)} {σ : L2.St} {H : Hp} {s : Shared} {d : Addr} {kvs : List (List Key × V)} (I : Inv X pins σ H s) (hd : H d = some (.dT kvs)) :
    (d == sysModules) = false ∧ kvs.length ≤ sizeLine ∧ ∃ es ep, s.heap.DictRaw d es ep ∧ es.size = kvs.length ∧ ∀ i (hi : i < es.size), ∃ x, (kvs.map (·.2))[i]? = some x ∧ RelV x es[i].val := by
  obtain ⟨z, hs, xs, rel, o, es, ep, ho, hx, hdat, he, _⟩ := dt_of I.hok hd
  have l1 : es.size = xs.length := size_of_entries he
  have l2 : kvs.length = xs.length := Paired.length rel
  refine ⟨hs, z, es, ep, ⟨o, ho, hx, hdat⟩, by omega, fun i hi => ?_⟩
  have hk : i < kvs.length := by omega
  obtain ⟨b, hb, e1, e2, e3⟩ := paired_get rel (List.getElem?_eq_getElem hk)
  have q := entry_at he i
  rw [hb, Array.getElem?_eq_getElem hi] at q
  have q : es[i] = _ := Option.some.inj q
  refine ⟨kvs[i].2, by rw [List.getElem?_map, List.getElem?_eq_getElem hk]; rfl, ?_⟩
  rw [q]
  exact e3
def rMaxV : List V → Hp → VK → Prop := fun vs H Q => ∃ (p d : Addr) (kvs : List (List Key × V)) (is : List Int), vs = [.ref p] ∧ H p = some (valsO p d) ∧ H d = some (.dT kvs) ∧ kvs.map (·.2) = is.map V.int ∧ is ≠ [] ∧
  ∀ m, m ∈ is → (∀ j ∈ is, j ≤ m) → Q (.int m) H
theorem cr_maxV (hc : X.calm = true) : CallR X (.builtin "max") rMaxV := by
  rintro pins s σ H xs us Q I r ⟨p, d, kvs, is, rfl, hp, hd, hv, hne, q⟩
  rw [Vals.ref1 r]
  obtain ⟨hs, _, es, ep, raw, hsz, hat⟩ := vals_at I hd
  have view : s.heap.IsValuesView p d := (I.hok p _ hp).1
  have hl : is.length = es.size := by
    have e := congrArg List.length hv
    rw [List.length_map, List.length_map] at e
    omega
  have hval : ∀ (i : Nat) (v : Value), (∃ hi : i < es.size, v = es[i].val) → ∃ t, v = Value.int (is.getD i 0) t := by
    rintro i v ⟨hi, rfl⟩
    obtain ⟨x, hx, rx⟩ := hat i hi
    rw [hv, List.getElem?_map, List.getElem?_eq_getElem (show i < is.length by omega)] at hx
    cases hx
    obtain ⟨t, e⟩ := rx
    refine ⟨t, ?_⟩
    rw [e, List.getD_eq_getElem?_getD, List.getElem?_eq_getElem (show i < is.length by omega)]
    rfl
  refine call_max_walk (wpAny_pyIter_values_raw view raw ?_)
  refine ⟨_, _, _, _, _, _, _, rfl, Walks.rawValues (A := X.A.in1) (I.ok.hd hc) s.heap.objs.size d (Nat.ne_of_lt raw.lt_size) es ep, ⟨⟨_, Heap.get?_push_size _ rfl, rfl, rfl⟩, raw.push _⟩, fun b hb => ?_, ?_, CmpOf.ints_gt (fun i => is.getD i 0) hval, fun v h' tk hP hk => ?_⟩
  · rw [Heap.size_push]
    rcases List.mem_cons.mp hb with e | e
    · exact e ▸ Nat.lt_succ_self _
    · exact (List.mem_singleton.mp e) ▸ Nat.lt_succ_of_lt raw.lt_size
  · have := List.length_pos_iff.mpr hne
    omega
  · obtain ⟨t, rfl⟩ := hval _ v hP
    obtain ⟨b1, b2⟩ := argBest_gt (fun i => is.getD i 0) (es.size - 1)
    have hpos := List.length_pos_iff.mpr hne
    refine ⟨.int _, H, I.kept (t' := tk) fun b u e => hk b u (fun hm => ?_) (Heap.get?_push_of_some _ e), ⟨t, rfl⟩, q _ ?_ fun j hj => ?_⟩
    · exact absurd (Heap.lt_size e) ((List.mem_singleton.mp hm) ▸ Nat.lt_irrefl _)
    · rw [List.getD_eq_getElem?_getD, List.getElem?_eq_getElem (show argBest _ (es.size - 1) < is.length by omega)]
      exact List.getElem_mem _
    · obtain ⟨i, hi, rfl⟩ := List.mem_iff_getElem.mp hj
      have b3 := b2 i (by omega)
      rw [List.getD_eq_getElem?_getD (i := i), List.getElem?_eq_getElem hi] at b3
      exact b3
def rListV : List V → Hp → VK → Prop := fun vs H Q => ∃ (p d : Addr) (kvs : List (List Key × V)), vs = [.ref p] ∧ H p = some (valsO p d) ∧ H d = some (.dT kvs) ∧
  ∀ l, H l = none → Q (.ref l) (upd H l (.lst (kvs.map (·.2))))
theorem cr_listV (hc : X.calm = true) : CallR X (.type "list") rListV := by
  rintro pins s σ H xs us Q I r ⟨p, d, kvs, rfl, hp, hd, q⟩
  rw [Vals.ref1 r]
  obtain ⟨hs, hz, es, ep, raw, hsz, hat⟩ := vals_at I hd
  have view : s.heap.IsValuesView p d := (I.hok p _ hp).1
  refine PySem.W.kdl_call (KdlSrc.rawValues) (I.ok.hd hc) ⟨view, raw⟩ (by omega) fun h' tk acc c kp e it => ?_
  have rv : Vals (kvs.map (·.2)) acc.toList := by
    refine vals_of_at (by rw [List.length_map]; exact hsz.symm.trans (it.1.symm.trans (Array.length_toList).symm)) fun j x u h1 h2 => ?_
    obtain ⟨hi, rfl⟩ := it.2 j u (by rw [← Array.getElem?_toList]; exact h2)
    obtain ⟨y, hy, ry⟩ := hat j hi
    rw [h1] at hy
    cases hy
    exact ry
  refine ⟨.ref s.heap.objs.size, _, I.laid (t' := tk) (o := .lst (kvs.map (·.2))) kp (Nat.le_refl _) ?_, rfl, q _ (I.hok.fresh (Nat.le_refl _))⟩
  exact ⟨by rw [List.length_map]; exact hz, acc.toList, c, rv, by rw [Array.toArray_toList]; exact e⟩
/-- min of a list of tuples of ints: one of them -/
def rMinT (K : PySem.W.Frag) : List V → Hp → VK → Prop := fun vs H Q => ∃ (l : Addr) (as : List (Addr × List Int)), vs = [.ref l] ∧ SqL K H l (as.map fun p => V.ref p.1) ∧ (∀ p ∈ as, SqT K H p.1 (p.2.map V.int)) ∧ as ≠ [] ∧
  ∀ p ∈ as, Q (.ref p.1) H
theorem cr_minT (hc : X.calm = true) (hu : X.A.units + 1 < cLine) : CallR X (.builtin "min") (rMinT X.K) := by
  rintro pins s σ H xs us Q I r ⟨l, as, rfl, hl, ht, hne, q⟩
  rw [Vals.ref1 r]
  obtain ⟨its, rv, pl, _⟩ := I.list hl
  have hlen : its.length = as.length := by rw [← rv.length, List.length_map]
  have at_ : ∀ (i : Nat) (v : Value), its.toArray[i]? = some v → ∃ p ∈ as, as[i]? = some p ∧ v = .ref p.1 := fun i v h => by
    rw [List.getElem?_toArray] at h
    have hi : i < its.length := (List.getElem?_eq_some_iff.mp h).1
    have hi2 : i < as.length := by omega
    obtain ⟨u, hu1, ru⟩ := rv.get (i := i) (x := V.ref as[i].1) (by rw [List.getElem?_map, List.getElem?_eq_getElem hi2]; rfl)
    rw [h] at hu1
    cases hu1
    exact ⟨as[i], List.getElem_mem hi2, List.getElem?_eq_getElem hi2, ru⟩
  refine call_min_walkH (PySem.W.iter_listW (A := X.A.in1) (I.ok.hd hc) pl.isList fun s₂ e W st hfp hw hk => ?_)
  refine ⟨_, _, _, _, _, _, _, s.heap, fun i j => HT.lexLt ((as[i]?.getD (0, [])).2) ((as[j]?.getD (0, [])).2), rfl, W, st, hfp, ?_, hw, hk, ?_, fun v s' hP m => ?_⟩
  · have := List.length_pos_iff.mpr hne
    rw [List.size_toArray]
    omega
  · intro i j vi vj s3 Q3 E3 kp hi hj hq
    obtain ⟨p1, m1, e1, rfl⟩ := at_ i vi hi
    obtain ⟨p2, m2, e2, rfl⟩ := at_ j vj hj
    obtain ⟨t1, r1, i1, _⟩ := I.tuple (ht p1 m1)
    obtain ⟨t2, r2, i2, _⟩ := I.tuple (ht p2 m2)
    simp only [e1, e2, Option.getD_some] at hq
    exact HT.lt_tupInts (A := X.A.in1) (i1.keeps kp) (i2.keeps kp) (Vals.ints r1) (Vals.ints r2) hu hq
  · obtain ⟨h', tk, rfl, hk'⟩ := PySem.W.moved_old e rfl m
    obtain ⟨p, mp, _, rfl⟩ := at_ _ v hP
    exact ⟨.ref p.1, H, I.kept (t' := tk) hk', rfl, q p mp⟩
/-- how often a bool stands in a tuple of bools -/
def rCntB (K : PySem.W.Frag) : V → List V → Hp → VK → Prop := fun x xs H Q => ∃ (p : Addr) (bs : List Bool) (k : Bool), x = .ref p ∧ xs = [.bl k] ∧ SqT K H p (bs.map V.bl) ∧ Q (.int (bs.count k : Nat)) H
def eqb (k : Bool) (v : Value) : Bool := match v with
  | .bool n => n == k
  | _ => false
theorem eqb_all {A : Around} {s : Shared} {k : Bool} : ∀ {us : List Value} {bs : List Bool}, Vals (bs.map V.bl) us → us.countP (eqb k) = bs.count k ∧ ∀ y ∈ us, ∃ n, y = Value.bool n
  | _, [], r => by
    cases r
    exact ⟨rfl, fun y h => by cases h⟩
  | _, b :: bs, r => by
    cases r with
    | cons r1 r2 =>
      obtain ⟨h1, h2⟩ := eqb_all (A := A) (s := s) (k := k) r2
      cases r1
      refine ⟨?_, fun y hy => ?_⟩
      · rw [List.countP_cons, List.count_cons, h1]
        rfl
      · rcases List.mem_cons.mp hy with e | e
        · exact ⟨b, e⟩
        · exact h2 y e
theorem mt_tcountB : MtR X "tuple.count" (rCntB X.K) := by
  rintro pins s σ H x xs v us Q I rx rxs ⟨p, bs, k, rfl, rfl, hs, q⟩
  cases rx
  obtain ⟨u, rfl, ru⟩ := rxs.one
  cases ru
  obtain ⟨its, rv, ⟨⟨cls, dd, data, sl⟩, ho, hc, n, hd⟩, hlen⟩ := I.tuple hs
  simp only at hc hd
  subst hc hd
  obtain ⟨h1, h2⟩ := eqb_all (A := X.A) (s := s) (k := k) rv
  refine call_meets PySem.F.slot_tuple_count ⟨_, ho, rfl⟩ PySem.F.entry_tuple_count (PySem.F.args_tuple_count_2 _ _)
    (SeqAt.tuple_countAt p its.toArray n dd sl (.bool k) (eqb k)) ⟨ho, fun y hy => ?_, ?_⟩
  · obtain ⟨b, rfl⟩ := h2 y (by simpa using hy)
    exact SeqAt.EqAt.bool_bool b k
  · refine ⟨.int (bs.count k : Nat), H, I.tok _, ⟨s.toks, ?_⟩, q⟩
    show Value.int ((its.toArray.toList.countP (eqb k) : Nat) : Int) s.toks = Value.int ((bs.count k : Nat) : Int) s.toks
    rw [← h1]
end
end PLR

/-! PLRc -/
set_option Elab.async false
set_option linter.all false
set_option maxRecDepth 100000
set_option maxHeartbeats 2000000
/-! Rules: enumerate of a tuple, zip of a list and a tuple. -/
namespace PLR
open PySem PySem.Spec PyProof.Rows L2
theorem meets_enum1 {v : Value} {o : Obj} {G : Heap → Prop} (B : Begins v o G) :
    Meets (Builtin.«enumerate.__new__» ⟨[.type "enumerate", v], []⟩) (fun _ R s => G s.heap ∧
      R (.ok (.ret (.ref (s.heap.push o).objs.size))) { s with heap := (s.heap.push o).push { cls := .type "enumerate", data := .fields #[.none, .bool false, .ref s.heap.objs.size, rawInt 0, .none, .none] } }) :=
  .of_wp fun prog w A R s h => by
    obtain ⟨hp, g, d, tk, os⟩ := s
    obtain ⟨hG, h⟩ := h
    have := sub_enumerate
    have it : ∀ {A' : Around} {E : Value → Shared → Prop} {Q : Value → Shared → Prop}, Q (.ref hp.objs.size) ⟨hp.push o, g, d, tk, os⟩ → wpAny (model prog w) A' (pyIter v) Q E ⟨hp, g, d, tk, os⟩ :=
      fun q => B.iter prog w _ _ ⟨hp, g, d, tk, os⟩ _ hG q
    wp_walk using it
    refine wpAny_stack_any fun st => wpAny_pure ?_
    split
    · rename_i c _ _ _ _ _
      cases (c == Value.type "enumerate") <;> (wp_walk using it; exact ⟨_, rfl, h⟩)
    · wp_walk using it
      exact ⟨_, rfl, h⟩
section
variable {prog : Program} {w : World} {A : Around} {E : Value → Shared → Prop} {s : Shared}
theorem call_enum1 {v : Value} {o : Obj} {G : Heap → Prop} {Q : Value → Shared → Prop} (B : Begins v o G) (hG : G s.heap)
    (h : ∀ h', IsEnum h' (s.heap.objs.size + 1) s.heap.objs.size 0 .none → h'.get? s.heap.objs.size = some o → h'.objs.size = s.heap.objs.size + 2 →
      (∀ b u, s.heap.get? b = some u → h'.get? b = some u) → Q (.ref (s.heap.objs.size + 1)) { s with heap := h' }) : wpAny (model prog w) A (call (.type "enumerate") [v]) Q E s := by
  refine callType_new F.called_enumerate (by decide) (F.typeCall_enumerate_1 _) (F.newCall_enumerate_1 _) (fun obj => F.args_object_init_2 obj _) F.entry_enumerate_new (meets_enum1 B) ⟨hG, ?_⟩
  have size1 : (s.heap.push o).objs.size = s.heap.objs.size + 1 := Heap.size_push ..
  show _ ∧ _
  rw [size1]
  have made := Heap.get?_push_size (s.heap.push o) (o := { cls := .type "enumerate", data := .fields #[.none, .bool false, .ref s.heap.objs.size, rawInt 0, .none, .none] }) rfl
  rw [size1] at made
  exact ⟨⟨_, made, rfl⟩, h _ made (Heap.get?_push_of_some _ (Heap.get?_push_size _ B.free)) (by rw [Heap.size_push, size1]) fun b u x => Heap.get?_push_of_some _ (Heap.get?_push_of_some _ x)⟩
end
theorem tup_same {X : Cx} {pins : List (Addr × Obj)} {σ : L2.St} {H : Hp} {s : Shared} {a : Addr} {xs ys : List V} (I : Inv X pins σ H s) (h : SqT X.K H a xs) (h' : SqT X.K H a ys) : xs = ys := by
  obtain ⟨its, r, ⟨o, e, _, n, d⟩, _⟩ := I.tuple h
  obtain ⟨its', r', ⟨o', e', _, n', d'⟩, _⟩ := I.tuple h'
  rw [e] at e'
  cases e'
  rw [d] at d'
  injection d' with d1 _
  have q : its = its' := by simpa using congrArg Array.toList d1
  subst q
  exact r.inj r'
/-- the tuple at a, its items in new pairs with their places -/
def IteT (K : PySem.W.Frag) (a : Addr) : It :=
  ⟨fun i H => ∃ (xs : List V) (x : V), SqT K H a xs ∧ xs[i]? = some x, fun i H v H' => ∃ T x, v = .ref T ∧ H T = none ∧ H' = upd H T (.tup [.int (i : Nat), x]) ∧ ∀ xs, SqT K H a xs → xs[i]? = some x,
    fun i H => ∃ xs : List V, SqT K H a xs ∧ xs.length = i⟩
theorem turn_enumT {P : Program} {w : World} {K : PySem.W.Frag} {elts : List Expr} {kk : Nat} {tpos : Pos} (a e it : Addr) (hae : a ≠ e) (hai : a ≠ it) :
    Turn P w K (.Tuple elts kk tpos) (IteT K a) [e, it] e (fun i h => (∃ old, IsEnum h e it ((i : Nat) : Int) old) ∧ h.IsTupleIter it a i ∧ e ≠ it) where
  mem := by simp
  obj := by
    rintro i h ⟨⟨old, he⟩, ⟨o, ho, hc, hd⟩, _⟩ b hb
    rcases List.mem_cons.mp hb with z | z
    · exact z ▸ ⟨_, he, fun v q => nomatch q⟩
    · exact (List.mem_singleton.mp z) ▸ ⟨o, ho, fun v q => by rw [hd] at q; cases q⟩
  keep := fun i h h' st k => let ⟨⟨old, he⟩, hi, hne⟩ := st; ⟨⟨old, k e (by simp) _ he⟩, hi.at fun o q => k it (by simp) o q, hne⟩
  item := by
    intro X hP hw hK hc i pins s σ H E I hf st hg
    subst hP hw hK
    obtain ⟨⟨old, he⟩, hit, hne⟩ := st
    obtain ⟨xs, x, hq, hx⟩ := hg
    obtain ⟨its, rv, p, hz⟩ := I.tuple hq
    obtain ⟨u, hu, ru⟩ := rv.get hx
    have el : e < s.heap.objs.size := Heap.lt_size he
    have il : it < s.heap.objs.size := by obtain ⟨_, q, _⟩ := hit; exact Heap.lt_size q
    have hlt : i < its.toArray.size := by rw [List.size_toArray]; exact (List.getElem?_eq_some_iff.mp hu).1
    refine wpAny_pyNext_enum_itemC (Draws.tuple (A := X.A.in1) (I.ok.hd hc) it a hai its.toArray) he ⟨hit, p⟩ hlt hne (by simp [hne, hae.symm]) fun x' h' tk hP' ho hs' hT hsz hk => ?_
    have ex : x' = u := by
      rw [List.getElem?_toArray, hu] at hP'
      exact (Option.some.inj hP').symm
    subst ex
    refine ⟨_, rfl, wpAny_letOwnedTupleGo_enum (s := { s with heap := h', toks := tk + 1 }) ho fun h'' he' sb => ?_⟩
    have hT2 := (sb.2 _ (Nat.ne_of_gt el)).trans hT
    have I1 : Inv X pins σ (upd H s.heap.objs.size (.tup [.int (i : Nat), x])) { s with heap := h'', toks := tk + 1 } :=
      I.turnedNew (ch := [e, it]) (fun b ob hb q => (sb.2 b (fun z => hb (by simp [z]))).trans (hk b ob (fun z => hb (by simp [z])) (fun z => hb (by simp [z])) q)) hf (Nat.le_refl _)
        ⟨by show 2 ≤ sizeLine; decide, [.int i tk, x'], .cons ⟨_, rfl⟩ (.cons ru .nil), ⟨_, hT2, rfl, _, rfl⟩⟩
    refine ⟨.ref s.heap.objs.size, _, I1, rfl, ⟨_, x, rfl, I.hok.fresh (Nat.le_refl _), rfl, fun ys hy => by rw [tup_same I hy hq]; exact hx⟩, ⟨⟨x', ?_⟩, hs'.1.at fun o q => (sb.2 it (Ne.symm hne)).trans q, hne⟩, fun b hb => ?_⟩
    · rw [show ((i + 1 : Nat) : Int) = (i : Int) + 1 by omega]
      exact he'
    · rw [upd_ne]
      · exact (hf b hb).1
      · rcases List.mem_cons.mp hb with z | z
        · exact z ▸ Nat.ne_of_lt el
        · exact (List.mem_singleton.mp z) ▸ Nat.ne_of_lt il
  done := by
    intro X hP hw hK hc i pins s σ H E I hf st hg
    subst hP hw hK
    obtain ⟨⟨old, he⟩, hit, hne⟩ := st
    obtain ⟨xs, hq, hx⟩ := hg
    obtain ⟨its, rv, p, hz⟩ := I.tuple hq
    obtain ⟨f0, f1, f2, f3, f4, f5⟩ := hf it (by simp)
    have hl := rv.length
    have en : i = its.toArray.size := by rw [List.size_toArray]; omega
    subst en
    exact wpAny_pyNext_enum_endD (Draws.tuple (A := X.A.in1) (I.ok.hd hc) it a hai its.toArray) he ⟨hit, p⟩ fun h' eb => ⟨rfl, I.turned (t' := s.toks) (fun b o hb q => eb b o hb q) f0 f1 f3 f4 f5⟩
  self := fun A i s Q E st h => let ⟨⟨_, he⟩, _⟩ := st; wpAny_pyIter_enum he h
def iEnumT (K : PySem.W.Frag) (ta : TA) : TI := fun σ H R => ta σ H fun vs H1 => ∃ a xs, vs = [.ref a] ∧ SqT K H1 a xs ∧ R (IteT K a) H1
theorem pi_enumT {X : Cx} {e : Expr} {ta : TA} {p pos tpos : Pos} {elts : List Expr} {kk : Nat} (hg : Gl X "enumerate") (hm : X.mg "enumerate" = none) (ha : PA X [e] ta) (hs : starEach [e] X.env = [(false, eval e X.env)] := by rfl) :
    PI X (.Tuple elts kk tpos) (.Call (.Name "enumerate" p) [e] [] pos) (iEnumT X.K ta) := by
  constructor
  intro pins s σ H R I h
  refine Call_ (ld_blt I hg hm boot_enumerate (PyProof.Rows.callWith_type1 (thn (ha.run pos pins s σ H _ I h) ?_) hs rfl))
  rintro us s1 ⟨vs, H1, I1, r1, a, xs, ex, hq, q⟩
  subst ex
  rw [Vals.ref1 r1]
  obtain ⟨its, rv, p', hz⟩ := I1.tuple hq
  have la : a < s1.heap.objs.size := p'.lt
  refine call_enum1 (begins_tuple a its.toArray) p' fun h' he hit hsz hk => wpAny_pyIter_enum he ?_
  have I2 : Inv X pins σ H1 { s1 with heap := h' } := I1.kept (t' := s1.toks) hk
  refine ⟨s1.heap.objs.size + 1, [s1.heap.objs.size + 1, s1.heap.objs.size], _, _, H1, rfl, I2, turn_enumT a (s1.heap.objs.size + 1) s1.heap.objs.size (Nat.ne_of_lt (Nat.lt_succ_of_lt la)) (Nat.ne_of_lt la), ⟨⟨.none, he⟩, ⟨_, hit, rfl, rfl⟩, Nat.succ_ne_self _⟩, fun b hb => ?_, q⟩
  have hle : s1.heap.objs.size ≤ b := by
    rcases List.mem_cons.mp hb with z | z
    · exact z ▸ Nat.le_succ _
    · exact (List.mem_singleton.mp z) ▸ Nat.le_refl _
  exact I1.fpOk hle (I1.hok.fresh hle)
end PLR

/-! PLRd -/
set_option Elab.async false
set_option linter.all false
set_option maxRecDepth 100000
set_option maxHeartbeats 2000000
/-! Rule: zip of a list and a tuple. -/
namespace PLR
open PySem PySem.Spec PyProof.Rows L2
/-- the list at a and the tuple at b, in new pairs -/
def ItzM (K : PySem.W.Frag) (a b : Addr) : It :=
  ⟨fun i H => ∃ (xs ys : List V) (x y : V), SqL K H a xs ∧ SqT K H b ys ∧ xs[i]? = some x ∧ ys[i]? = some y,
    fun i H v H' => ∃ T x y, v = .ref T ∧ H T = none ∧ H' = upd H T (.tup [x, y]) ∧ (∀ xs, SqL K H a xs → xs[i]? = some x) ∧ ∀ ys, SqT K H b ys → ys[i]? = some y,
    fun i H => ∃ xs ys : List V, SqL K H a xs ∧ SqT K H b ys ∧ i ≤ xs.length ∧ i ≤ ys.length ∧ (i = xs.length ∨ i = ys.length)⟩
theorem turn_zipM {P : Program} {w : World} {K : PySem.W.Frag} {elts : List Expr} {kk : Nat} {tpos : Pos} {a b z TI TO i1 i2 : Addr} (D : ZipSep2 z TI TO i1 i2 [i1, a] [i2, b]) (ha : a ≠ i1) (hb : b ≠ i2) :
    Turn P w K (.Tuple elts kk tpos) (ItzM K a b) [z, TI, TO, i1, i2] z (fun i h => IsZip h z TI TO .none ∧ IsTupOf2 h TI (.ref i1) (.ref i2) ∧ (∃ x y, IsTupOf2 h TO x y) ∧ h.IsListIter i1 a i ∧ h.IsTupleIter i2 b i) where
  mem := by simp
  obj := by
    rintro i h ⟨hz, hTI, ⟨x, y, hTO⟩, ⟨o1, e1, _, d1⟩, ⟨o2, e2, _, d2⟩⟩ c hc
    simp only [List.mem_cons, List.not_mem_nil, or_false] at hc
    rcases hc with q | q | q | q | q
    · exact q ▸ ⟨_, hz, fun v q => nomatch q⟩
    · exact q ▸ ⟨_, hTI, fun v q => nomatch q⟩
    · exact q ▸ ⟨_, hTO, fun v q => nomatch q⟩
    · exact q ▸ ⟨o1, e1, fun v q => by rw [d1] at q; cases q⟩
    · exact q ▸ ⟨o2, e2, fun v q => by rw [d2] at q; cases q⟩
  keep := by
    rintro i h h' ⟨hz, hTI, ⟨x, y, hTO⟩, h1, h2⟩ k
    exact ⟨k z (by simp) _ hz, k TI (by simp) _ hTI, ⟨x, y, k TO (by simp) _ hTO⟩, h1.at fun o q => k i1 (by simp) o q, h2.at fun o q => k i2 (by simp) o q⟩
  item := by
    intro X hP hw hK hc i pins s σ H E I hf st hg
    subst hP hw hK
    obtain ⟨hz, hTI, ⟨x0, y0, hTO⟩, h1, h2⟩ := st
    obtain ⟨xs, ys, x, y, hqx, hqy, hx, hy⟩ := hg
    obtain ⟨its, rv, p, _⟩ := I.list hqx
    obtain ⟨its2, rv2, p2, _⟩ := I.tuple hqy
    obtain ⟨u, hu, ru⟩ := rv.get hx
    obtain ⟨u2, hu2, ru2⟩ := rv2.get hy
    have lt1 : i < its.toArray.size := by rw [List.size_toArray]; exact (List.getElem?_eq_some_iff.mp hu).1
    have lt2 : i < its2.toArray.size := by rw [List.size_toArray]; exact (List.getElem?_eq_some_iff.mp hu2).1
    have low : ∀ c ∈ [z, TI, TO, i1, i2], c < s.heap.objs.size := by
      intro c hc
      simp only [List.mem_cons, List.not_mem_nil, or_false] at hc
      obtain ⟨_, e1, _⟩ := id h1
      obtain ⟨_, e2, _⟩ := id h2
      rcases hc with q | q | q | q | q
      · exact q ▸ Heap.lt_size hz
      · exact q ▸ Heap.lt_size hTI
      · exact q ▸ Heap.lt_size hTO
      · exact q ▸ Heap.lt_size e1
      · exact q ▸ Heap.lt_size e2
    refine wpAny_pyNext_zipD2_item D (Draws.list (A := X.A.in1) (I.ok.hd hc) i1 a ha its.toArray) (Draws.tuple (A := X.A.in1) (I.ok.hd hc) i2 b hb its2.toArray) hz hTI hTO ⟨h1, p.isList⟩ ⟨h2, p2⟩ lt1 lt2 ?_
    intro x1 x2 h' tk P1 P2 z' TO' st1 st2 hT hsz hk
    have ex1 : x1 = u := by
      rw [List.getElem?_toArray, hu] at P1
      exact (Option.some.inj P1).symm
    have ex2 : x2 = u2 := by
      rw [List.getElem?_toArray, hu2] at P2
      exact (Option.some.inj P2).symm
    subst ex1 ex2
    refine ⟨_, rfl, wpAny_letOwnedTupleGo_zip (s := { s with heap := h', toks := tk }) z' fun h'' z'' sb => ?_⟩
    have hT2 := (sb.2 _ (Nat.ne_of_gt (low z (by simp)))).trans hT
    have I1 : Inv X pins σ (upd H s.heap.objs.size (.tup [x, y])) { s with heap := h'', toks := tk } :=
      I.turnedNew (ch := [z, TI, TO, i1, i2]) (fun c o hb q => (sb.2 c (fun q' => hb (by simp [q']))).trans (hk c o (fun q' => hb (by simp [q'])) (fun q' => hb (by simp [q'])) (fun q' => hb (by simp [q'])) (fun q' => hb (by simp [q'])) q)) hf (Nat.le_refl _)
        ⟨by show 2 ≤ sizeLine; decide, [x1, x2], .cons ru (.cons ru2 .nil), ⟨_, hT2, rfl, _, rfl⟩⟩
    refine ⟨.ref s.heap.objs.size, _, I1, rfl, ⟨_, x, y, rfl, I.hok.fresh (Nat.le_refl _), rfl, fun l hl => by rw [I.list_inj hl hqx]; exact hx, fun l hl => by rw [I.tuple_inj hl hqy]; exact hy⟩, ⟨z'', ?_, ⟨x1, x2, ?_⟩, ?_, ?_⟩, fun c hcm => ?_⟩
    · exact (sb.2 _ D.TIz).trans (hk _ _ D.TIz D.TITO D.TIi1 D.TIi2 hTI)
    · exact (sb.2 _ D.TOz).trans TO'
    · exact st1.1.at fun o q => (sb.2 _ D.zi1.symm).trans q
    · exact st2.1.at fun o q => (sb.2 _ D.zi2.symm).trans q
    · rw [upd_ne (Nat.ne_of_lt (low c hcm))]
      exact (hf c hcm).1
  done := by
    intro X hP hw hK hc i pins s σ H E I hf st hg
    subst hP hw hK
    obtain ⟨hz, hTI, ⟨x0, y0, hTO⟩, h1, h2⟩ := st
    obtain ⟨xs, ys, hqx, hqy, le1, le2, hend⟩ := hg
    obtain ⟨its, rv, p, _⟩ := I.list hqx
    obtain ⟨its2, rv2, p2, _⟩ := I.tuple hqy
    have l1 := rv.length
    have l2 := rv2.length
    refine wpAny_pyNext_zipD2_end D (Draws.list (A := X.A.in1) (I.ok.hd hc) i1 a ha its.toArray) (Draws.tuple (A := X.A.in1) (I.ok.hd hc) i2 b hb its2.toArray) hz hTI hTO ⟨h1, p.isList⟩ ⟨h2, p2⟩ (by simp; omega) (by simp; omega) (by simp; omega) ?_
    intro h' tk hk
    exact ⟨rfl, I.turnedL (t' := tk) (ch := [z, TI, TO, i1, i2]) (fun c o hb q => hk c o (fun q' => hb (by simp [q'])) (fun q' => hb (by simp [q'])) (fun q' => hb (by simp [q'])) (fun q' => hb (by simp [q'])) q) hf⟩
  self := fun A i s Q E st h => wpAny_pyIter_zip st.1 h
def iZipM (K : PySem.W.Frag) (ta : TA) : TI := fun σ H R => ta σ H fun vs H1 => ∃ a b xs ys, vs = [.ref a, .ref b] ∧ SqL K H1 a xs ∧ SqT K H1 b ys ∧ R (ItzM K a b) H1
theorem pi_zipM {X : Cx} {e e2 : Expr} {ta : TA} {p pos tpos : Pos} {elts : List Expr} {kk : Nat} (hg : Gl X "zip") (hm : X.mg "zip" = none) (ha : PA X [e, e2] ta)
    (hs : starEach [e, e2] X.env = (false, eval e X.env) :: starEach [e2] X.env := by rfl) (hpl : (backTo pos (starEach [e2] X.env)).any (·.1) = false := by rfl) :
    PI X (.Tuple elts kk tpos) (.Call (.Name "zip" p) [e, e2] [] pos) (iZipM X.K ta) := by
  constructor
  intro pins s σ H R I h
  refine Call_ (ld_blt I hg hm PyProof.Rows.boot_zip (PyProof.Rows.callWith_type1 (thn (ha.run pos pins s σ H _ I h) ?_) hs hpl))
  rintro us s1 ⟨vs, H1, I1, r1, a, b, xs, ys, ex, hqx, hqy, q⟩
  subst ex
  obtain ⟨u1, u2, rfl, ra, rb⟩ := vals2 r1
  cases ra
  cases rb
  obtain ⟨its, rv, p1, _⟩ := I1.list hqx
  obtain ⟨its2, rv2, p2, _⟩ := I1.tuple hqy
  have la : a < s1.heap.objs.size := p1.lt
  have lb : b < s1.heap.objs.size := p2.lt
  refine zip_begins2 (begins_list a its.toArray) (begins_tuple b its2.toArray) p1.isList p2 fun h' hz hTI hTO h1 h2 hsz hk => wpAny_pyIter_zip hz ?_
  have I2 : Inv X pins σ H1 { s1 with heap := h' } := I1.kept (t' := s1.toks) hk
  refine ⟨s1.heap.objs.size + 4, [s1.heap.objs.size + 4, s1.heap.objs.size + 2, s1.heap.objs.size + 3, s1.heap.objs.size, s1.heap.objs.size + 1], _, _, H1, rfl, I2,
    turn_zipM (zip_sep2 (fp1 := [a]) (fp2 := [b]) (fun c hc => (List.mem_singleton.mp hc) ▸ la) (fun c hc => (List.mem_singleton.mp hc) ▸ lb)) (Nat.ne_of_lt la) (Nat.ne_of_lt (Nat.lt_succ_of_lt lb)), ⟨hz, hTI, ⟨_, _, hTO⟩, ⟨_, h1, rfl, rfl⟩, ⟨_, h2, rfl, rfl⟩⟩, fun c hcm => ?_, q⟩
  have hle : s1.heap.objs.size ≤ c := by
    simp only [List.mem_cons, List.not_mem_nil, or_false] at hcm
    rcases hcm with z | z | z | z | z <;> rw [z] <;> first | exact Nat.le_add_right _ _ | exact Nat.le_refl _
  exact I1.fpOk hle (I1.hok.fresh hle)
end PLR

/-! PLRe -/
set_option Elab.async false
set_option linter.all false
set_option maxRecDepth 100000
set_option maxHeartbeats 4000000
/-! Rule: set(xs) of a list of ints. -/
namespace PLR
open PySem PySem.Spec PyProof.Rows L2
/-- a set as it is made -/
abbrev bareSet (w : World) : Obj := { cls := .type "set", dict := none, data := .set #[] 0 (.fresh 0 0 (!w.params.followText "set-order")) }
section
variable {P : Program} {w : World} {A : Around} {E : Value → Shared → Prop} {s : Shared}
/-- what its filling leaves -/
def Filled (w : World) (s : Shared) (ns : List Int) (s2 : Shared) : Prop := ∃ h' tk c, s2 = { s with heap := h', toks := tk } ∧ SetR w h' s.heap.objs.size (fun j => decide (j ∈ ns)) c ∧ c ≤ ns.length ∧ ∀ b o, s.heap.get? b = some o → h'.get? b = some o
theorem set_init_ints {l : Addr} {items : Array Value} {ns : List Int} (hh : A.handled = none) (hl : s.heap.IsList l items) (hit : IntsAre items.toList ns) (hb : ns.length + 1 < scanBound) :
    codeAny (model P w) A (.call (.builtin "set.__init__") ⟨[.ref s.heap.objs.size, .ref l], []⟩) (wants (fun r s2 => r = .none ∧ Filled w s ns s2) E) { s with heap := s.heap.push (bareSet w) } := by
  have made : (s.heap.push (bareSet w)).get? s.heap.objs.size = some (bareSet w) := Heap.get?_push_size _ rfl
  have ofSet : Shared.TypeIs { s with heap := s.heap.push (bareSet w) } (.ref s.heap.objs.size) "set" := ⟨_, made, rfl⟩
  refine codeAny_call_builtin F.called_set.init.plain F.entry_set_init (check_set_init_1 ofSet ?_)
  have hsize : items.size = ns.length := by
    have q := IntsAre.length hit
    simpa using q
  obtain ⟨⟨c0, d0, x0, sl0⟩, here, hc0, n0, hx0⟩ := hl
  simp only at hc0 hx0
  subst hc0 hx0
  have here1 : (s.heap.push (bareSet w)).get? l = some { cls := .type "list", dict := d0, data := .seq items n0, slots := sl0 } := Heap.get?_push_of_some _ here
  have isL : (s.heap.push (bareSet w)).IsList l items := ⟨_, here1, rfl, n0, rfl⟩
  have := F.sub_list_set
  have := F.sub_list_frozenset
  have : (Value.type "list" == Value.type "dict") = false := by decide
  have ll : l < s.heap.objs.size := Heap.lt_size here
  unfold Builtin.«set.__init__» noKeywords Builtin.Frozenset.updateFrom
  generalize hI : pyIter = It0
  wp_walk
  subst hI
  refine wpAny_pyIter_list isL (wpAny_bind (wpAny_runValue ?_))
  have hIt : l ≠ (s.heap.push (bareSet w)).objs.size := by
    rw [Heap.size_push]
    exact Nat.ne_of_lt (Nat.lt_succ_of_lt ll)
  have hOut : s.heap.objs.size ∉ [(s.heap.push (bareSet w)).objs.size, l] := by
    rw [Heap.size_push]
    intro z
    rcases List.mem_cons.mp z with z | z
    · exact absurd z (Nat.ne_of_lt (Nat.lt_succ_self _))
    · exact absurd (List.mem_singleton.mp z) (Nat.ne_of_gt ll)
  have calm3 : A.in1.in1.handled = none := by simp [hh]
  have hval : ∀ (i : Nat) (v : Value), items[i]? = some v → ∃ k t, ns[i]? = some k ∧ v = .int k t := fun i v hv => by
    have hi : i < ns.length := by rw [← hsize]; exact (Array.getElem?_eq_some_iff.mp hv).1
    obtain ⟨t, e⟩ := PyProof.Rows.IntsAre.int_at hit i v (by rw [Array.getElem?_toList]; exact hv)
    refine ⟨ns[i], t, List.getElem?_eq_getElem hi, ?_⟩
    rw [e, List.getD_eq_getElem?_getD, List.getElem?_eq_getElem hi] <;> rfl
  refine set_update_ints ((Walks.list calm3 _ l hIt items).toS) s.heap.objs.size hOut ns hsize hb hval (items.size - 0) 0 _ (by omega) (Nat.zero_le _)
    ⟨⟨_, Heap.get?_push_size _ rfl, rfl, rfl⟩, isL.push _⟩ ?start ?fin
  case start =>
    exact ⟨0, Nat.le_refl 0, setR_new_at (Heap.get?_push_of_some _ made)⟩
  case fin =>
    intro s' c hm hc hS
    obtain ⟨h', g', d', tk', os'⟩ := s'
    obtain rfl : g' = s.gens := hm.gens
    obtain rfl : d' = s.drawn := hm.drawn
    obtain rfl : os' = s.os := hm.os
    show wpAny _ _ _ _ _ _
    refine wpAny_pure ?_
    show wpAny _ _ (ret Value.none) _ _ _
    refine wpAny_pure ⟨rfl, h', tk', c, rfl, hS, hsize ▸ hc, fun b o e => hm.heap b o (fun z => ?_) (Heap.get?_push_of_some _ (Heap.get?_push_of_some _ e))⟩
    have lb := Heap.lt_size e
    rcases List.mem_cons.mp z with z | z
    · exact absurd z (Nat.ne_of_lt lb)
    · rw [List.mem_singleton.mp z, Heap.size_push] at lb
      exact absurd lb (Nat.not_lt.mpr (Nat.le_succ _))
theorem call_set_ints {l : Addr} {items : Array Value} {ns : List Int} {Q : Value → Shared → Prop} (hh : A.handled = none) (hl : s.heap.IsList l items) (hit : IntsAre items.toList ns) (hb : ns.length + 1 < scanBound)
    (h : ∀ s2, Filled w s ns s2 → Q (.ref s.heap.objs.size) s2) : wpAny (model P w) A (call (.type "set") [.ref l]) Q E s := by
  obtain ⟨c, tl, hmro⟩ := F.called_set.mro
  have := F.called_set.made
  have := F.called_set.sub
  refine wpAny_call (codeAny_of_tree ?_)
  show wpAny _ _ (callAny (.type "set") _) _ _ _
  refine wpAny_pure ⟨Code.quiet_builtin _ (by decide +kernel), codeAny_builtin F.entry_type_call ?_⟩
  rw [Around.under_plain (weight_type_call_type "set" [.ref l] []) rfl]
  have := F.called_set.notType
  have := F.called_set.canCreate
  have := F.typeCall_set_1 (.ref l)
  repeat (any_goals (first | assumption | wp_step))
  refine codeAny_mono (code_set_led1 (.ref l) (E := E) (Q₁ := fun obj s1 => obj = .ref s.heap.objs.size ∧ s1 = { s with heap := s.heap.push (bareSet w) }) ⟨rfl, rfl⟩) ?_
  rintro (e | fl) s1 hr
  · exact hr
  cases fl with
  | ret obj =>
    obtain ⟨rfl, rfl⟩ := hr
    have ofSet : Shared.TypeIs { s with heap := s.heap.push (bareSet w) } (.ref s.heap.objs.size) "set" := ⟨_, Heap.get?_push_size _ rfl, rfl⟩
    have := F.called_set.init.lookup
    have := F.called_set.init.bind (.ref s.heap.objs.size)
    repeat (any_goals (first | assumption | wp_step))
    refine codeAny_mono (set_init_ints (E := E) (ns := ns) (by simp [hh]) hl hit hb) ?_
    rintro (e | fl2) s2 hr2
    · exact hr2
    cases fl2 with
    | ret r =>
      obtain ⟨rfl, fin⟩ := hr2
      repeat (any_goals (first | assumption | wp_step))
      exact h _ fin
    | _ => exact hr2.elim
  | _ => exact hr.elim
end
section
variable {X : Cx}
def rSetI (K : PySem.W.Frag) (w : World) : List V → Hp → VK → Prop := fun vs H Q => ∃ (l : Addr) (ns : List Int), vs = [.ref l] ∧ SqL K H l (ns.map V.int) ∧ ns.length < 60 ∧
  ∀ a c, c ≤ ns.length → H a = none → Q (.ref a) (upd H a (SetO w a (fun j => decide (j ∈ ns)) c))
theorem cr_setI (hc : X.calm = true) : CallR X (.type "set") (rSetI X.K X.w) := by
  rintro pins s σ H xs us Q I r ⟨l, ns, rfl, hl, hn, q⟩
  rw [Vals.ref1 r]
  obtain ⟨its, rv, pl, _⟩ := I.list hl
  refine call_set_ints (ns := ns) (I.ok.hd hc) pl.isList (by simpa using Vals.ints rv) (Nat.lt_of_lt_of_le (show ns.length + 1 < 64 by omega) (by decide)) ?_
  rintro s2 ⟨h', tk, c, rfl, R, hle, kp⟩
  exact ⟨.ref s.heap.objs.size, _, I.laid (t' := tk) kp (Nat.le_refl _) (setO_new R), rfl, q _ c hle (I.hok.fresh (Nat.le_refl _))⟩
end
end PLR

/-! PLRf -/
set_option Elab.async false
set_option linter.all false
set_option maxRecDepth 100000
set_option maxHeartbeats 2000000
/-! Helpers: nested data as PyData; x in a tuple of tuples; heaps; standings, webs and dicts of standings as the heap holds them. -/
namespace PLR
open PySem PySem.Spec PyProof.Rows L2 PLM
/-! ### data -/
def inD (s : List Int) : PyData := .tuple (s.map PyData.int)
theorem lay_all {α : Type} {f : α → PyData} (h : ∀ a, (f a).canLay0 = true) : ∀ l : List α, PyData.canLayAll0 (l.map f) = true
  | [] => by simp [PyData.canLayAll0]
  | a :: l => by simp [PyData.canLayAll0, h a, lay_all h l]
theorem dep_all {α : Type} {f : α → PyData} {n : Nat} (h : ∀ a, (f a).depth ≤ n) : ∀ l : List α, PyData.depthAll (l.map f) ≤ n
  | [] => by simp [PyData.depthAll]
  | a :: l => by
    have h1 := dep_all h l
    have h2 := h a
    simp only [List.map_cons, PyData.depthAll]
    omega
theorem inD_lay (s : List Int) : (inD s).canLay0 = true := by
  simp only [inD, PyData.canLay0]
  exact lay_all (fun i => by simp [PyData.canLay0]) s
theorem inD_dep (s : List Int) : (inD s).depth ≤ 2 := by
  have := dep_all (f := PyData.int) (n := 1) (fun i => by simp [PyData.depth]) s
  simp only [inD, PyData.depth]
  omega
theorem shaped_of {d : PyData} (h : d.canLay0 = true) (h' : d.depth ≤ 64) : SeqAt.shaped d = true := by
  show (d.canLay0 && decide (d.depth ≤ 64)) = true
  rw [h, decide_eq_true h'] <;> rfl
theorem inD_shaped (s : List Int) : SeqAt.shaped (inD s) = true := shaped_of (inD_lay s) (by have := inD_dep s; omega)
theorem eqvAll_ints : ∀ s t : List Int, PyData.eqvAll (s.map PyData.int) (t.map PyData.int) = decide (s = t)
  | [], [] => by simp [PyData.eqvAll]
  | [], _ :: _ => by simp [PyData.eqvAll]
  | _ :: _, [] => by simp [PyData.eqvAll]
  | x :: s, y :: t => by
    have ih := eqvAll_ints s t
    simp only [List.map_cons, PyData.eqvAll, PyData.eqv, ih]
    by_cases h : x = y
    · subst h; simp
    · have : (x == y) = false := beq_eq_false_iff_ne.mpr h
      simp [this, h]
theorem inD_eqv (s t : List Int) : PyData.eqv (inD s) (inD t) = decide (s = t) := by
  simp only [inD, PyData.eqv]
  exact eqvAll_ints s t
/-- lists of standings, of pairs of a lamp and a standing, against the empty list -/
def wdD (p : Int × List Int) : PyData := .tuple [.int p.1, inD p.2]
theorem wdD_lay (p : Int × List Int) : (wdD p).canLay0 = true := by simp [wdD, PyData.canLay0, PyData.canLayAll0, inD_lay]
theorem wdD_dep (p : Int × List Int) : (wdD p).depth ≤ 3 := by
  have := inD_dep p.2
  simp only [wdD, PyData.depth, PyData.depthAll]
  omega
theorem lst_shaped {α : Type} {f : α → PyData} (h : ∀ a, (f a).canLay0 = true) (h' : ∀ a, (f a).depth ≤ 3) (l : List α) : SeqAt.shaped (.list (l.map f)) = true := by
  refine shaped_of ?_ ?_
  · simp only [PyData.canLay0]
    exact lay_all h l
  · have := dep_all h' l
    simp only [PyData.depth]
    omega
theorem nil_shaped : SeqAt.shaped (.list []) = true := by
  have := lst_shaped (f := PyData.int) (fun i => by simp [PyData.canLay0]) (fun i => by simp [PyData.depth]) []
  simpa using this
theorem eqv_nil {α : Type} (f : α → PyData) (l : List α) : PyData.eqv (.list (l.map f)) (.list []) = decide (l = []) := by
  cases l <;> simp [PyData.eqv, PyData.eqvAll]
section
variable {K : PySem.W.Frag} {H : Hp}
theorem dp_ints : ∀ s : List Int, DpAll K H (s.map V.int) (s.map PyData.int)
  | [] => .nil
  | x :: s => .cons (.int x) (dp_ints s)
theorem dp_tup {a : Addr} {s : List Int} (h : SqT K H a (s.map V.int)) : Dp K H (.ref a) (inD s) := .tup h (dp_ints s)
theorem dp_lst {a : Addr} {s : List Int} (h : SqL K H a (s.map V.int)) : Dp K H (.ref a) (.list (s.map PyData.int)) := .lst h (dp_ints s)
theorem int_shaped (s : List Int) : SeqAt.shaped (.list (s.map PyData.int)) = true := lst_shaped (fun i => by simp [PyData.canLay0]) (fun i => by simp [PyData.depth]) s
end
/-! ### x in a tuple of tuples -/
section
variable {X : Cx}
def rInDT (K : PySem.W.Frag) : R2 := fun x y H Q => ∃ d ds, Dp K H x d ∧ Dp K H y (.tuple ds) ∧ SeqAt.shaped d = true ∧ SeqAt.shaped (.tuple ds) = true ∧ Q (.bl (ds.any fun z => PyData.eqv z d)) H
theorem op_inDT (hu : X.A.units + 65 < cLine) : OpR X (compareOp .In) (rInDT X.K) := by
  rintro pins s σ H x y v u Q I rx ry ⟨d, ds, hd, he, sd, se, q⟩
  obtain ⟨as, r1⟩ := Dp.reads I d x v hd rx
  obtain ⟨bs, r2⟩ := Dp.reads I (.tuple ds) y u he ry
  exact SeqAt.in_tuple_reads r2 r1 (SeqAt.canLay_of_shaped se) (SeqAt.canLay_of_shaped sd) (room_in_shaped sd hu) ⟨.bl _, H, I, rfl, q⟩
end
/-! ### heaps -/
theorem _root_.L2.Same.new {H H' : Hp} {p : Addr} {o : HO} (S : Same H H') (h : H' p = none) : Same H (upd H' p o) := fun b x e => by
  rw [upd_ne (ne_of_none (S b x e) h)]
  exact S b x e
/-- a change at what was not there at first -/
theorem _root_.L2.Same.put {H H' : Hp} {p : Addr} {o : HO} (S : Same H H') (h : H p = none) : Same H (upd H' p o) := fun b x e => by
  rw [upd_ne (ne_of_none e h)]
  exact S b x e
theorem up {H : Hp} {a p : Addr} {o u : HO} (h : H a = some o) (n : H p = none) : upd H p u a = some o := by
  rw [upd_ne (ne_of_none h n)]
  exact h
theorem seqT {K : PySem.W.Frag} {H H' : Hp} {a : Addr} {xs : List V} (e : Same H H') (h : SqT K H a xs) : SqT K H' a xs := by
  rcases h with (h | ⟨o, h⟩) | h
  · exact .inl (.inl (e _ _ h))
  · exact .inl (.inr ⟨o, e _ _ h⟩)
  · exact .inr h
/-! ### standings, webs, dicts -/
/-- a standing (any tuple of ints) -/
def Tp (H : Hp) (a : Addr) (s : List Int) : Prop := H a = some (.tup (s.map V.int))
theorem Tp.to {H H' : Hp} {a : Addr} {s : List Int} (h : Tp H a s) (S : Same H H') : Tp H' a s := S _ _ h
theorem Tp.sq {K : PySem.W.Frag} {H : Hp} {a : Addr} {s : List Int} (h : Tp H a s) : SqT K H a (s.map V.int) := .inl (.inl h)
theorem lq {K : PySem.W.Frag} {H : Hp} {a : Addr} {xs : List V} (h : H a = some (.lst xs)) : SqL K H a xs := .inl (.inl h)
theorem tq {K : PySem.W.Frag} {H : Hp} {a : Addr} {xs : List V} (h : H a = some (.tup xs)) : SqT K H a xs := .inl (.inl h)
/-- addresses of pairs -/
def Prs (H : Hp) (as : List Addr) (ar : Ar) : Prop := as.length = ar.length ∧ ∀ (i : Nat) (a : Addr) (e : Int × Int), as[i]? = some a → ar[i]? = some e → H a = some (.tup [.int e.1, .int e.2])
theorem Prs.to {H H' : Hp} {as : List Addr} {ar : Ar} (h : Prs H as ar) (S : Same H H') : Prs H' as ar := ⟨h.1, fun i a e h1 h2 => S _ _ (h.2 i a e h1 h2)⟩
structure WebAt (H : Hp) (w : Addr) (n : Int) (ar : Ar) : Prop where
  ex : ∃ (t : Addr) (as : List Addr), H w = some (.tup [.int n, .ref t]) ∧ H t = some (.tup (as.map V.ref)) ∧ Prs H as ar
  gw : GW n ar
theorem WebAt.to {H H' : Hp} {w : Addr} {n : Int} {ar : Ar} (h : WebAt H w n ar) (S : Same H H') : WebAt H' w n ar := by
  obtain ⟨t, as, h1, h2, h3⟩ := h.ex
  exact ⟨⟨t, as, S _ _ h1, S _ _ h2, h3.to S⟩, h.gw⟩
/-- addresses of standings -/
def Sts (H : Hp) (as : List Addr) (ss : List S) : Prop := as.length = ss.length ∧ ∀ (i : Nat) (a : Addr) (s : S), as[i]? = some a → ss[i]? = some s → Tp H a s
theorem Sts.to {H H' : Hp} {as : List Addr} {ss : List S} (h : Sts H as ss) (Sm : Same H H') : Sts H' as ss := ⟨h.1, fun i a e h1 h2 => (h.2 i a e h1 h2).to Sm⟩
theorem Sts.nil {H : Hp} : Sts H [] [] := ⟨rfl, fun i a s h => by simp at h⟩
theorem Sts.snoc {H : Hp} {as : List Addr} {ss : List S} {a : Addr} {s : S} (h : Sts H as ss) (t : Tp H a s) : Sts H (as ++ [a]) (ss ++ [s]) := by
  refine ⟨by simp [h.1], fun i b u h1 h2 => ?_⟩
  by_cases hi : i < as.length
  · rw [List.getElem?_append_left hi] at h1
    rw [List.getElem?_append_left (by rw [← h.1]; exact hi)] at h2
    exact h.2 i b u h1 h2
  · have e : i = as.length := by
      have := (List.getElem?_eq_some_iff.mp h1).1
      simp at this
      omega
    subst e
    rw [List.getElem?_append_right (Nat.le_refl _)] at h1
    rw [h.1, List.getElem?_append_right (Nat.le_refl _)] at h2
    simp at h1 h2
    subst h1 h2
    exact t
theorem Sts.get {H : Hp} {as : List Addr} {ss : List S} (h : Sts H as ss) {i : Nat} {v : V} (e : (as.map V.ref)[i]? = some v) : ∃ a s, v = .ref a ∧ as[i]? = some a ∧ ss[i]? = some s ∧ Tp H a s := by
  rw [List.getElem?_map] at e
  cases q : as[i]? with
  | none => rw [q] at e; cases e
  | some a =>
    rw [q] at e
    have hi : i < ss.length := by rw [← h.1]; exact (List.getElem?_eq_some_iff.mp q).1
    exact ⟨a, ss[i], (Option.some.inj e).symm, rfl, List.getElem?_eq_getElem hi, h.2 i a _ q (List.getElem?_eq_getElem hi)⟩
theorem Prs.get {H : Hp} {as : List Addr} {ar : Ar} (h : Prs H as ar) {i : Nat} {v : V} (e : (as.map V.ref)[i]? = some v) : ∃ a x y, v = .ref a ∧ as[i]? = some a ∧ ar[i]? = some (x, y) ∧ H a = some (.tup [.int x, .int y]) := by
  rw [List.getElem?_map] at e
  cases q : as[i]? with
  | none => rw [q] at e; cases e
  | some a =>
    rw [q] at e
    have hi : i < ar.length := by rw [← h.1]; exact (List.getElem?_eq_some_iff.mp q).1
    exact ⟨a, ar[i].1, ar[i].2, (Option.some.inj e).symm, rfl, List.getElem?_eq_getElem hi, h.2 i a _ q (List.getElem?_eq_getElem hi)⟩
theorem dp_sts {K : PySem.W.Frag} {H : Hp} : ∀ {as : List Addr} {ss : List S}, Sts H as ss → DpAll K H (as.map V.ref) (ss.map inD)
  | [], [], _ => .nil
  | [], _ :: _, h => by cases h.1
  | _ :: _, [], h => by cases h.1
  | a :: as, s :: ss, h => .cons (dp_tup (h.2 0 a s rfl rfl).sq) (dp_sts ⟨Nat.succ.inj h.1, fun i b u h1 h2 => h.2 (i + 1) b u h1 h2⟩)
theorem dp_prs {K : PySem.W.Frag} {H : Hp} : ∀ {as : List Addr} {ar : Ar}, Prs H as ar → DpAll K H (as.map V.ref) (ar.map fun e => inD [e.1, e.2])
  | [], [], _ => .nil
  | [], _ :: _, h => by cases h.1
  | _ :: _, [], h => by cases h.1
  | a :: as, e :: ar, h => .cons (dp_tup (s := [e.1, e.2]) (tq (h.2 0 a e rfl rfl))) (dp_prs ⟨Nat.succ.inj h.1, fun i b u h1 h2 => h.2 (i + 1) b u h1 h2⟩)
/-- dicts of standings -/
abbrev ky (s : S) : List Key := s.map Sum.inl
theorem ky_kV (s : S) : (ky s).map kV = s.map V.int := by
  rw [List.map_map]
  rfl
theorem ky_inj : ∀ {s t : S}, ky s = ky t → s = t
  | [], [], _ => rfl
  | [], _ :: _, h => by cases h
  | _ :: _, [], h => by cases h
  | x :: s, y :: t, h => by
    have h1 : (Sum.inl x : Key) = Sum.inl y ∧ ky s = ky t := by simpa using h
    have e1 : x = y := Sum.inl.inj h1.1
    rw [e1, ky_inj h1.2]
theorem Tp.ky {H : Hp} {a : Addr} {s : S} (h : Tp H a s) : H a = some (.tup ((PLR.ky s).map kV)) := by
  rw [ky_kV]
  exact h
def enc (f : List (S × Int)) : List (List Key × V) := f.map fun e => (ky e.1, V.int e.2)
def fget (f : List (S × Int)) (s : S) : Option Int := (f.find? fun e => decide (e.1 = s)).map (·.2)
theorem length_enc (f : List (S × Int)) : (enc f).length = f.length := by simp [enc]
theorem val_enc (s : S) : ∀ f : List (S × Int), valV (enc f) (ky s) = (fget f s).map V.int
  | [] => rfl
  | (t, z) :: f => by
    have ih := val_enc s f
    by_cases h : t = s
    · subst h
      have e1 : valV (enc ((t, z) :: f)) (ky t) = some (V.int z) := valV_pos (p := (ky t, V.int z)) rfl
      have e2 : fget ((t, z) :: f) t = some z := by simp [fget]
      rw [e1, e2] <;> rfl
    · have e1 : valV (enc ((t, z) :: f)) (ky s) = valV (enc f) (ky s) := valV_neg (p := (ky t, V.int z)) fun q => h (ky_inj q)
      have e2 : fget ((t, z) :: f) s = fget f s := by simp [fget, h]
      rw [e1, e2, ih]
theorem enc_vals (f : List (S × Int)) : (enc f).map (·.2) = (f.map (·.2)).map V.int := by
  simp [enc]
theorem fget_none {f : List (S × Int)} {s : S} : fget f s = none ↔ s ∉ f.map (·.1) := by
  unfold fget
  rw [Option.map_eq_none_iff, List.find?_eq_none, List.mem_map]
  constructor
  · rintro h ⟨e, he, rfl⟩
    exact h e he (by simp)
  · intro h e he q
    exact h ⟨e, he, by simpa using q⟩
theorem fget_some {f : List (S × Int)} (hn : (f.map (·.1)).Nodup) {s : S} {z : Int} : fget f s = some z ↔ (s, z) ∈ f := by
  unfold fget
  rw [Option.map_eq_some_iff]
  constructor
  · rintro ⟨e, he, rfl⟩
    have h1 := List.mem_of_find?_eq_some he
    have h2 := List.find?_some he
    have : e.1 = s := by simpa using h2
    rw [← this]
    exact h1
  · intro h
    cases q : f.find? fun e => decide (e.1 = s) with
    | none => exact absurd (List.find?_eq_none.mp q _ h) (by simp)
    | some e =>
      have h1 := List.mem_of_find?_eq_some q
      have h2 : e.1 = s := by simpa using List.find?_some q
      refine ⟨e, rfl, ?_⟩
      obtain ⟨i, hi, e1⟩ := List.mem_iff_getElem.mp h1
      obtain ⟨j, hj, e2⟩ := List.mem_iff_getElem.mp h
      have eij : i = j := by
        refine (List.getElem_inj (h₀ := by simpa using hi) (h₁ := by simpa using hj) hn).mp ?_
        rw [List.getElem_map, List.getElem_map, e1, e2, h2]
      subst eij
      rw [e1] at e2
      rw [e2]
theorem fget_snoc {f : List (S × Int)} {s t : S} {z : Int} (h : t ∉ f.map (·.1)) : fget (f ++ [(t, z)]) s = if s = t then some z else fget f s := by
  unfold fget
  rw [List.find?_append]
  by_cases e : s = t
  · subst e
    have := fget_none.mpr h
    unfold fget at this
    rw [Option.map_eq_none_iff] at this
    simp [this]
  · have : (List.find? (fun e => decide (e.1 = s)) [(t, z)]) = none := by
      rw [List.find?_eq_none]
      intro x hx
      have : x = (t, z) := by simpa using hx
      subst this
      simpa using fun q => e q.symm
    rw [if_neg e, this]
    cases List.find? (fun e => decide (e.1 = s)) f <;> rfl
theorem put_new {f : List (S × Int)} {t : S} {z : Int} (h : t ∉ f.map (·.1)) : putK (enc f) (ky t) (V.int z) = enc (f ++ [(t, z)]) := by
  rw [putK_new]
  · simp [enc]
  · rw [val_enc, fget_none.mpr h] <;> rfl
end PLR

/-! PLBase -/
set_option Elab.async false
set_option linter.all false
set_option maxRecDepth 100000
set_option maxHeartbeats 4000000
/-! The text by places; a def of it and what it promises. -/
namespace PLW
open PySem PySem.Spec PyProof.Rows L2 PLM PLR
def top (i : Nat) : Stmt := PySem.Challenge.pw_passlights_k66_across_deeds_and_lamps.main.body.getD i (.Pass ⟨0, 0, 0, 0⟩)
abbrev s_is_in : Stmt := top 7
abbrev s_is_arrow : Stmt := top 10
abbrev s_need_web : Stmt := top 11
abbrev s_need_burning : Stmt := top 12
abbrev s_need_both : Stmt := top 13
abbrev s_led_from : Stmt := top 14
abbrev s_turned_in : Stmt := top 15
abbrev s_light_in : Stmt := top 18
abbrev s_quench_in : Stmt := top 19
abbrev s_changed : Stmt := top 20
abbrev s_doable : Stmt := top 21
abbrev s_is_lamps : Stmt := top 22
abbrev s_line_in : Stmt := top 23
abbrev s_line_of : Stmt := top 24
abbrev s_run : Stmt := top 25
abbrev s_comes_in : Stmt := top 27
abbrev s_steps_from : Stmt := top 29
abbrev s_need_two : Stmt := top 30
abbrev s_fewest : Stmt := top 31
abbrev s_steps_to : Stmt := top 32
abbrev s_way_between : Stmt := top 33
abbrev s_ways_count : Stmt := top 34
abbrev s_farthest_in : Stmt := top 35
abbrev s_farthest : Stmt := top 36
abbrev s_deed_counts : Stmt := top 37
abbrev s_word_sorts : Stmt := top 39
abbrev s_burn_times : Stmt := top 40
abbrev s_sort_counts : Stmt := top 41
abbrev s_need_deeds : Stmt := top 44
abbrev s_counts_in : Stmt := top 45
abbrev s_words_between : Stmt := top 46
abbrev s_below_from : Stmt := top 48
abbrev s_need_most : Stmt := top 49
abbrev s_peak_in : Stmt := top 50
abbrev s_least_peak : Stmt := top 51
abbrev s_fewest_below : Stmt := top 52
abbrev s_peak_word : Stmt := top 53
abbrev s__law_taken : Stmt := top 55
abbrev s__law_pick : Stmt := top 56
abbrev s__law_web : Stmt := top 57
abbrev s__law_burning : Stmt := top 58
abbrev s__law_changed : Stmt := top 59
abbrev s__law_run : Stmt := top 60
abbrev s__law_light : Stmt := top 61
abbrev s__law_quench : Stmt := top 62
abbrev s__law_after : Stmt := top 63
abbrev s__law_word : Stmt := top 64
abbrev s_law : Stmt := top 65
/-- a def of the text, where the top has left it -/
structure Src (K : PySem.W.Frag) (mg : Str → Option Value) (x : Str) (st : Stmt) : Prop where
  ex : ∃ f fd, mg x = some (.ref f) ∧ FunD K x x (defArgs st) (defBody st) (defScope st) [] [] f fd
/-- it keeps the promise sp -/
structure Def (P : Program) (w : World) (K : PySem.W.Frag) (mg : Str → Option Value) (base : Heap) (k : Nat) (x : Str) (ps : List Str) (sp : Sp) : Prop where
  ex : ∃ f fd, mg x = some (.ref f) ∧ PySem.W.keepIn K (.ref f) = true ∧ Binds K fd ps [] ∧ FnOk P w K mg base CX0 k f fd ps sp
section
variable {P : Program} {w : World} {K : PySem.W.Frag} {mg : Str → Option Value} {base : Heap}
theorem mkDef {x : Str} {st : Stmt} {N ps : List Str} {k : Nat} {sp : Sp} (F : Src K mg x st) (S : FnScope N ps (defScope st))
    (hb : ∀ (kV doc pm : Value) (an : Option Addr) (cdv ct : Value) (us : List Value), us.length = ps.length → bindArgs (PySem.W.fnOf x x (defArgs st) (defBody st) (defScope st) .none kV doc pm an cdv ct) ⟨us, []⟩ = pure (ps.zip us))
    (len : ∀ vs H Q E, sp vs H Q E → vs.length = ps.length)
    (body : ∀ (f : Addr) (cdv : Value) (A : Around) (outer : List Env) (s : Shared) (H : Hp) (vs : List V) (Q : VK) (E : XK), Room k (A.deeper (envOfC x (defScope st) s.heap.objs.size f cdv)) → sp vs H Q E →
      ∃ t, PSs (cxOf CX0 P w K mg base N x (defScope st) f cdv A outer s H E).nox (defBody st) t ∧ t { nx := fun _ H' => Q .non H', rt := Q } (start N vs) H) : Def P w K mg base (k + 1) x ps sp := by
  obtain ⟨f, fd, g, F⟩ := F.ex
  refine ⟨f, fd, g, F.kp, F.bindsN hb, F.ok S len fun cdv A outer s H vs Q E hr h => ?_⟩
  obtain ⟨t, ht, q⟩ := body f cdv A outer s H vs Q E hr h
  exact ⟨t, ht.nox, q⟩
theorem Def.mono {j k : Nat} {x : Str} {ps : List Str} {sp : Sp} (D : Def P w K mg base j x ps sp) (h : j ≤ k) : Def P w K mg base k x ps sp := by
  obtain ⟨f, fd, g, kp, b, F⟩ := D.ex
  exact ⟨f, fd, g, kp, b, F.mono h⟩
end
/-- a call of it -/
theorem pc {X : Cx} {k : Nat} {x : Str} {ps : List Str} {sp : Sp} {e : Expr} {es : List Expr} {t : TA} {p pos : Pos} (D : Def X.prog X.w X.K X.mg X.base k x ps sp) (hr : Room k X.A) (ha : PA X (e :: es) t) (hg : Gl X x := by rfl)
    (h1 : (x == ("__debug__" : Str)) = false := by decide) (h2 : starEach (e :: es) X.env = (false, eval e X.env) :: starEach es X.env := by rfl) (h3 : (backTo pos (starEach es X.env)).any (·.1) = false := by rfl) : PE X (.Call (.Name x p) (e :: es) [] pos) (tCall sp [] E0 t) := by
  obtain ⟨f, fd, g, kp, b, F⟩ := D.ex
  exact pe_call F hr hg g kp b .nil pass0 ha h1 h2 h3
/-- the built-ins' names are free, the three constants stand -/
structure Txt (mg : Str → Option Value) : Prop where
  b_bool : mg "bool" = none
  b_enumerate : mg "enumerate" = none
  b_int : mg "int" = none
  b_isinstance : mg "isinstance" = none
  b_len : mg "len" = none
  b_list : mg "list" = none
  b_max : mg "max" = none
  b_min : mg "min" = none
  b_range : mg "range" = none
  b_set : mg "set" = none
  b_sorted : mg "sorted" = none
  b_tuple : mg "tuple" = none
  b_zip : mg "zip" = none
  lamps : ∃ t, mg "MOST_LAMPS" = some (.int 9 t)
  word : ∃ t, mg "MOST_WORD" = some (.int 200 t)
  deeds : ∃ t, mg "MOST_DEEDS" = some (.int 20 t)
end PLW

/-! PLRg -/
set_option Elab.async false
set_option linter.all false
set_option maxRecDepth 100000
set_option maxHeartbeats 4000000
namespace PLR
open PySem PySem.Spec PyProof.Rows L2 PLM
section
variable {K : PySem.W.Frag} {a b : Addr} {xs ys : List V}
theorem walk_enumT : Walk (IteT K a) xs.length (fun H => SqT K H a xs) (YPair (fun i => some (.int (i : Nat))) (fun i => xs[i]?)) := by
  refine ⟨fun i _ hi q => ⟨xs, xs[i], q, by simp [hi]⟩, fun _ q => ⟨xs, q, rfl⟩, fun i H v H' _ q y => ?_⟩
  obtain ⟨T, x, h1, h2, h3, h4⟩ := y
  exact ⟨T, .int (i : Nat), x, h1, h2, h3, rfl, h4 xs q⟩
theorem walk_zipM (hn : ys.length ≤ xs.length) : Walk (ItzM K a b) ys.length (fun H => SqL K H a xs ∧ SqT K H b ys) (YPair (fun i => xs[i]?) (fun i => ys[i]?)) := by
  refine ⟨fun i _ hi q => ⟨xs, ys, xs[i]'(by omega), ys[i], q.1, q.2, by simp, by simp [hi]⟩, fun _ q => ⟨xs, ys, q.1, q.2, hn, Nat.le_refl _, .inr rfl⟩, fun i H v H' _ q y => ?_⟩
  obtain ⟨T, x, z, h1, h2, h3, h4, h5⟩ := y
  exact ⟨T, x, z, h1, h2, h3, h4 xs q.1, h5 ys q.2⟩
end
theorem lex_pair {x y x' y' : Int} (h : ltA (x', y') (x, y)) :
    Ob.lexAt (fun j => decide (([x, y] : List Int).getD j 0 = ([x', y'] : List Int).getD j 0)) (fun j => decide (([x, y] : List Int).getD j 0 ≤ ([x', y'] : List Int).getD j 0)) (decide (([x, y] : List Int).length ≤ ([x', y'] : List Int).length)) 0 (min ([x, y] : List Int).length ([x', y'] : List Int).length) = false := by
  have e : min ([x, y] : List Int).length ([x', y'] : List Int).length = 1 + 1 := rfl
  rw [e, Ob.lexAt_succ, Ob.lexAt_succ]
  have h : x' < x ∨ (x' = x ∧ y' < y) := h
  show (if decide (x = x') = true then (if decide (y = y') = true then _ else decide (y ≤ y')) else decide (x ≤ x')) = false
  rcases h with h | ⟨h, h'⟩
  · rw [decide_eq_false (show ¬ x = x' by omega), if_neg (by decide), decide_eq_false (show ¬ x ≤ x' by omega)]
  · rw [decide_eq_true (show x = x' by omega), if_pos rfl, decide_eq_false (show ¬ y = y' by omega), if_neg (by decide), decide_eq_false (show ¬ y ≤ y' by omega)]
theorem pw_at {α : Type} {R : α → α → Prop} {l : List α} (h : l.Pairwise R) {i j : Nat} {x y : α} (hi : l[i]? = some x) (hj : l[j]? = some y) (hij : i < j) : R x y := by
  obtain ⟨h1, e1⟩ := List.getElem?_eq_some_iff.mp hi
  obtain ⟨h2, e2⟩ := List.getElem?_eq_some_iff.mp hj
  have := List.pairwise_iff_getElem.mp h i j h1 h2 hij
  rw [e1, e2] at this
  exact this
theorem units65 {k : Nat} {A : Around} (hr : Room k A) : A.units + 65 < cLine := by
  have := hr.un
  omega
end PLR

/-! PLRk -/
set_option Elab.async false
set_option linter.all false
set_option maxRecDepth 100000
set_option maxHeartbeats 4000000
/-! The layer's rules with the written part named: they can then stand within a comprehension. -/
namespace PLR
open PySem PySem.Spec PyProof.Rows L2 PLM
section
variable {X : Cx} {K : PySem.W.Frag}
theorem ix_listK (h : X.K = K := by rfl) : IxR X (rIxL K) := h ▸ ix_list
theorem ix_tupK (h : X.K = K := by rfl) : IxR X (rIxT K) := h ▸ ix_tup
theorem op_inK (h : X.K = K := by rfl) : OpR X (compareOp .In) (rIn K false) := h ▸ op_in_seq
theorem op_notInK (h : X.K = K := by rfl) : OpR X (compareOp .NotIn) (rIn K true) := h ▸ op_notIn_seq
theorem op_eqDK (hu : X.A.units + 64 < cLine) (h : X.K = K := by rfl) : OpR X (compareOp .Eq) (rEqD K) := h ▸ op_eqD hu
theorem op_neDK (hu : X.A.units + 64 < cLine) (h : X.K = K := by rfl) : OpR X (compareOp .NotEq) (rNeD K) := h ▸ op_neD hu
theorem op_inDTK (hu : X.A.units + 65 < cLine) (h : X.K = K := by rfl) : OpR X (compareOp .In) (rInDT K) := h ▸ op_inDT hu
theorem op_leTK (hu : X.A.units < cLine) (h : X.K = K := by rfl) : OpR X (compareOp .LtE) (rLeT K) := h ▸ op_leT hu
theorem op_catAK (h : X.K = K := by rfl) : OpR X (binaryOp .Add) (rCatA K) := h ▸ op_catA
def rLenK (K : PySem.W.Frag) : List V → Hp → VK → Prop := fun xs H Q => ∃ p ys, xs = [.ref p] ∧ (SqL K H p ys ∨ SqT K H p ys) ∧ Q (.int (ys.length : Nat)) H
theorem lenK (h : X.K = K := by rfl) : CallR X (.builtin "len") (rLenK K) := h ▸ call_len_seq
def rTupK (K : PySem.W.Frag) : List V → Hp → VK → Prop := fun xs H Q => ∃ p ys, xs = [.ref p] ∧ ((SqL K H p ys ∧ ∀ l, H l = none → Q (.ref l) (upd H l (.tup ys))) ∨ (SqT K H p ys ∧ Q (.ref p) H))
theorem tupleK (h : X.K = K := by rfl) : CallR X (.type "tuple") (rTupK K) := h ▸ call_tuple_of
def rLstK (K : PySem.W.Frag) : List V → Hp → VK → Prop := fun xs H Q => ∃ p ys, xs = [.ref p] ∧ (SqL K H p ys ∨ SqT K H p ys) ∧ ∀ l, H l = none → Q (.ref l) (upd H l (.lst ys))
theorem listK (h : X.K = K := by rfl) : CallR X (.type "list") (rLstK K) := h ▸ call_list_of
theorem sortedK (h : X.K = K := by rfl) : CallR X (.builtin "sorted") (rSorted K) := h ▸ cr_sorted
theorem sortedUK {d : Nat} {B : Int} (hd : 1 ≤ d) (h : X.K = K := by rfl) : CallR X (.builtin "sorted") (rSortU K d B) := h ▸ cr_sortT hd
theorem maxK (hc : X.calm = true) (h : X.K = K := by rfl) : CallR X (.builtin "max") (rMax K) := h ▸ cr_max hc
theorem minTK (hc : X.calm = true) (hu : X.A.units + 1 < cLine) (h : X.K = K := by rfl) : CallR X (.builtin "min") (rMinT K) := h ▸ cr_minT hc hu
theorem isiK (h : X.K = K := by rfl) : CallR X (.builtin "isinstance") (rIsi K) := h ▸ call_isi
theorem setIK {w : World} (hc : X.calm = true) (h : X.K = K := by rfl) (h' : X.w = w := by rfl) : CallR X (.type "set") (rSetI K w) := h ▸ h' ▸ cr_setI hc
theorem setTK {P : Program} {w : World} (hc : X.calm = true) (hu : X.A.units + 64 < cLine) (h : X.K = K := by rfl) (h' : X.w = w := by rfl) (h'' : X.prog = P := by rfl) : CallR X (.type "set") (rSetOfT K P w) := h ▸ h' ▸ h'' ▸ cr_setOfT hc hu
theorem sortedSK {w : World} (hc : X.calm = true) (h' : X.w = w := by rfl) : CallR X (.builtin "sorted") (rSortedSet w) := h' ▸ cr_sortedSet hc
theorem sortedTK {P : Program} {w : World} (hc : X.calm = true) (h : X.K = K := by rfl) (h' : X.w = w := by rfl) (h'' : X.prog = P := by rfl) : CallR X (.builtin "sorted") (rSortedT K P w) := h ▸ h' ▸ h'' ▸ cr_sortedT hc
theorem lcountK (h : X.K = K := by rfl) : MtR X "list.count" (rCntI K) := h ▸ mt_lcount
theorem tcountBK (h : X.K = K := by rfl) : MtR X "tuple.count" (rCntB K) := h ▸ mt_tcountB
theorem pi_tupK {tg l : Expr} {tl : TE} (hl : PE X l tl) (h : X.K = K := by rfl) : PI X tg l (iTup K tl) := h ▸ pi_tup hl
theorem pi_listK {tg l : Expr} {tl : TE} (hl : PE X l tl) (h : X.K = K := by rfl) : PI X tg l (iList K tl) := h ▸ pi_list hl
theorem pi_enumTK {e : Expr} {ta : TA} {p pos tpos : Pos} {elts : List Expr} {kk : Nat} (hg : Gl X "enumerate") (hm : X.mg "enumerate" = none) (ha : PA X [e] ta) (h : X.K = K := by rfl) (hs : starEach [e] X.env = [(false, eval e X.env)] := by rfl) :
    PI X (.Tuple elts kk tpos) (.Call (.Name "enumerate" p) [e] [] pos) (iEnumT K ta) := h ▸ pi_enumT hg hm ha hs
theorem pi_zipMK {e e2 : Expr} {ta : TA} {p pos tpos : Pos} {elts : List Expr} {kk : Nat} (hg : Gl X "zip") (hm : X.mg "zip" = none) (ha : PA X [e, e2] ta) (h : X.K = K := by rfl)
    (hs : starEach [e, e2] X.env = (false, eval e X.env) :: starEach [e2] X.env := by rfl) (hpl : (backTo pos (starEach [e2] X.env)).any (·.1) = false := by rfl) :
    PI X (.Tuple elts kk tpos) (.Call (.Name "zip" p) [e, e2] [] pos) (iZipM K ta) := h ▸ pi_zipM hg hm ha hs hpl
theorem pe_bmK {T id : String} {name : PySem.Str} {o e : Expr} {es : List Expr} {apos cpos : Pos} {r : V → List V → Hp → VK → Prop} {to : TE} {t : TA} (pa : PlainAttrs T) (slot : Slot T name id) (hty : typeOf (.builtin id) = pure (.type "method_descriptor")) (hm : MtR X id r) (ho : PE X o to) (ha : PA X (e :: es) t) (h : X.K = K := by rfl)
    (h1 : attributeBase o name X.env (eval o X.env) = eval o X.env := by rfl)
    (h2 : ((backTo cpos (starEach (e :: es) X.env)).all (fun x => !x.1) && (backToKw cpos (keywordEach [] X.env)).all (fun x => x.1.isSome) && decide ((e :: es).length + ([] : List Keyword).length + (if ([] : List Keyword).isEmpty then 0 else 1) < 30)) = true := by rfl)
    (h3 : (apos.endLine == cpos.line) = true := by rfl) (h4 : starEach (e :: es) X.env = (false, eval e X.env) :: starEach es X.env := by rfl) (h5 : (backTo cpos (starEach es X.env)).any (·.1) = false := by rfl) :
    PE X (.Call (.Attribute o name apos) (e :: es) [] cpos) (tBM K T r to t) := h ▸ pe_bm pa slot hty hm ho ha h1 h2 h3 h4 h5
theorem blkK {N N' : List PySem.Str} {sc sc' scope : Scope} {own : List (PySem.Str × Nat)} (h : blkC N sc scope own = true) (hN : N' = N := by rfl) (hs : sc' = sc := by rfl) : BlkOk N' sc' scope own := by
  subst hN hs
  exact blkOk_by h
end
theorem inV_ints (x : Int) (xs : List Int) : inV (.int x) (xs.map V.int) = decide (x ∈ xs) := by
  unfold inV
  rw [List.any_map]
  by_cases h : x ∈ xs
  · rw [decide_eq_true h, List.any_eq_true]
    exact ⟨x, h, by simp [eqV]⟩
  · rw [decide_eq_false h, List.any_eq_false]
    intro y hy
    simp only [Function.comp, eqV]
    intro e
    have : y = x := by simpa using e
    exact h (this ▸ hy)
theorem flat_ints (xs : List Int) : (xs.map V.int).all flatV = true := by
  rw [List.all_map, List.all_eq_true]
  intro x _
  rfl
theorem map_snoc (xs : List Int) (y : Int) : xs.map V.int ++ [V.int y] = (xs ++ [y]).map V.int := by simp
theorem get_ints {xs : List Int} {i : Nat} {v : V} (h : (xs.map V.int)[i]? = some v) : ∃ k, v = .int k ∧ xs[i]? = some k ∧ k ∈ xs := by
  rw [List.getElem?_map] at h
  obtain ⟨k, hk, e⟩ := Option.map_eq_some_iff.mp h
  exact ⟨k, e.symm, hk, List.mem_of_getElem? hk⟩
end PLR

/-! PLRm -/
set_option Elab.async false
set_option linter.all false
set_option maxRecDepth 100000
set_option maxHeartbeats 4000000
namespace PLR
open PySem PySem.Spec PyProof.Rows L2 PLM
theorem perm_of_map {α β : Type} {f : α → β} : ∀ {ys m : List β}, ys.Perm m → ∀ {l : List α}, m = l.map f → ∃ l' : List α, l'.Perm l ∧ ys = l'.map f := by
  intro ys m h
  induction h with
  | nil =>
    intro l e
    have : l = [] := by simpa using e.symm
    subst this
    exact ⟨[], .refl _, rfl⟩
  | cons x _ ih =>
    intro l e
    match l, e with
    | a :: l, e =>
      rw [List.map_cons] at e
      obtain ⟨h1, h2⟩ := List.cons.inj e
      obtain ⟨l', p, q⟩ := ih h2
      exact ⟨a :: l', p.cons a, by rw [List.map_cons, h1, q]⟩
  | swap x y r =>
    intro l e
    match l, e with
    | a :: b :: l, e =>
      rw [List.map_cons, List.map_cons] at e
      obtain ⟨h1, h2⟩ := List.cons.inj e
      obtain ⟨h3, h4⟩ := List.cons.inj h2
      exact ⟨b :: a :: l, .swap a b l, by rw [List.map_cons, List.map_cons, h1, h3, h4]⟩
    | [_], e => simp at e
  | trans _ _ ih1 ih2 =>
    intro l e
    obtain ⟨l2, p2, q2⟩ := ih2 e
    obtain ⟨l1, p1, q1⟩ := ih1 q2
    exact ⟨l1, p1.trans p2, q1⟩
/-- addresses with the pairs that stand there -/
def Prz (H : Hp) (zs : List (Addr × Int × Int)) : Prop := ∀ z ∈ zs, H z.1 = some (.tup [.int z.2.1, .int z.2.2])
theorem Prz.to {H H' : Hp} {zs : List (Addr × Int × Int)} (h : Prz H zs) (S : Same H H') : Prz H' zs := fun z hz => S _ _ (h z hz)
theorem Prz.prs {H : Hp} {zs : List (Addr × Int × Int)} (h : Prz H zs) : Prs H (zs.map (·.1)) (zs.map (·.2)) := by
  refine ⟨by simp, fun i a e h1 h2 => ?_⟩
  rw [List.getElem?_map] at h1 h2
  cases q : zs[i]? with
  | none => rw [q] at h1; cases h1
  | some z =>
    rw [q] at h1 h2
    cases h1; cases h2
    exact h z (List.mem_of_getElem? q)
theorem Prz.snoc {H : Hp} {zs : List (Addr × Int × Int)} {z : Addr × Int × Int} (h : Prz H zs) (hz : H z.1 = some (.tup [.int z.2.1, .int z.2.2])) : Prz H (zs ++ [z]) := fun y hy => by
  rcases List.mem_append.mp hy with q | q
  · exact h y q
  · exact (List.mem_singleton.mp q) ▸ hz
/-- what sorting tells of pairs -/
theorem przSorted {K : PySem.W.Frag} {H : Hp} {zs : List (Addr × Int × Int)} {n : Int} (h7 : n ≤ 7) (hz : Prz H zs) (hr : ∀ z ∈ zs, (0 ≤ z.2.1 ∧ z.2.1 < n) ∧ 0 ≤ z.2.2 ∧ z.2.2 < n) (hn : (zs.map (·.2)).Nodup)
    (hp : zs.Pairwise fun a b => TS.code 64 [a.2.1, a.2.2] ≤ TS.code 64 [b.2.1, b.2.2]) : (zs.map (·.2)).Pairwise ltA := by
  rw [List.pairwise_map]
  have hn := List.pairwise_map.mp hn
  refine List.Pairwise.imp_of_mem ?_ (List.Pairwise.and hp hn)
  rintro a b ha hb ⟨h1, h2⟩
  rw [code_pair, code_pair] at h1
  exact code_lt h7 (hr a ha) (hr b hb) h1 h2
theorem prs_przs {H : Hp} {as : List Addr} {ar : Ar} (h : Prs H as ar) : ∃ zs : List (Addr × Int × Int), as = zs.map (·.1) ∧ ar = zs.map (·.2) ∧ Prz H zs := by
  refine ⟨as.zip ar, ?_, ?_, ?_⟩
  · rw [List.map_fst_zip (by rw [h.1]; exact Nat.le_refl _)]
  · rw [List.map_snd_zip (by rw [h.1]; exact Nat.le_refl _)]
  · intro z hz
    obtain ⟨i, hi, e⟩ := List.mem_iff_getElem.mp hz
    rw [List.length_zip] at hi
    rw [List.getElem_zip] at e
    subst e
    exact h.2 i _ _ (List.getElem?_eq_getElem (by omega)) (List.getElem?_eq_getElem (by omega))
theorem take_snoc {α : Type} {l : List α} {i : Nat} {x : α} (h : l[i]? = some x) : l.take (i + 1) = l.take i ++ [x] := by
  rw [List.take_add_one, h]
  rfl
theorem filter_snoc {α : Type} {p : α → Bool} {l : List α} {i : Nat} {x : α} (h : l[i]? = some x) : (l.take (i + 1)).filter p = (l.take i).filter p ++ if p x = true then [x] else [] := by
  rw [take_snoc h, List.filter_append]
  congr 1
  cases q : p x <;> simp [q]
end PLR

/-! PLRn -/
set_option Elab.async false
set_option linter.all false
set_option maxRecDepth 100000
set_option maxHeartbeats 4000000
/-! Rule: sorted of a tuple of ints. -/
namespace PLR
open PySem PySem.Spec PyProof.Rows L2 PLM
section
variable {prog : Program} {w : World} {A : Around} {E : Value → Shared → Prop} {s : Shared}
theorem collect_tup {l : Addr} {vs : List Value} {Q : List Value → Shared → Prop} (hl : s.heap.IsTuple l vs.toArray) (hsz : vs.length ≤ sizeLine)
    (h : Q vs { s with heap := (s.heap.push (seqObj "list" #[] 0)).update s.heap.objs.size (Obj.mapSeq (· ++ vs.toArray)) }) : wpAny (model prog w) A (collect (.ref l)) Q E s := by
  obtain ⟨o, ho, hc, n, hd⟩ := id hl
  unfold collect
  refine wpAny_bind (wpAny_runValue (codeAny_builtin entry_proto_collect' ?_))
  show wpAny _ _ (do again (.builtin "list.__iadd__" ⟨[← newList [], .ref l], []⟩)) _ _ s
  refine wpAny_bind (wpAny_newList (wpAny_pure ⟨Code.quiet_builtin _ (by decide +kernel), codeAny_builtin entry_list_iadd' ?_⟩))
  show wpAny _ _ (Builtin.List.listExtendWith (.ref s.heap.objs.size) (.ref l) (.ref s.heap.objs.size)) _ _ { s with heap := s.heap.push (seqObj "list" #[] 0) }
  unfold Builtin.List.listExtendWith
  have there : (s.heap.push (seqObj "list" #[] 0)).get? l = some o := Heap.get?_push_of_some _ ho
  have own : (s.heap.push (seqObj "list" #[] 0)).get? s.heap.objs.size = some (seqObj "list" #[] 0) := Heap.get?_push_size _ rfl
  refine wpAny_bind (wpAny_typeOf (T := "tuple") ⟨o, there, hc⟩ ?_)
  have same : (Value.type "tuple" == Value.type "tuple") = true := by rfl
  rw [if_pos (by rw [same]; simp)]
  refine wpAny_bind (listItems_at there hd (wpAny_bind (listItems_at (xs := #[]) (n := 0) own rfl ?_)))
  rw [if_neg (by simp)]
  refine wpAny_bind (listUpdate_at (xs := #[]) (n := 0) own rfl (wpAny_pure ?_) (Nat.zero_le _) (by show (#[] ++ vs.toArray).size ≤ sizeLine + 1; simp; omega))
  refine wpAny_bind (wpAny_load (get?_update_seq own _) ?_)
  show wpAny _ _ (pure ((#[] : Array Value) ++ vs.toArray).toList) Q E _
  have e : ((#[] : Array Value) ++ vs.toArray).toList = vs := by simp
  rw [e]
  exact wpAny_pure h
theorem sorted_tup_ints {l : Addr} {vs : List Value} {ns : List Int} {Q : Value → Shared → Prop} (hl : s.heap.IsTuple l vs.toArray) (hI : IntsAre vs ns) (h64 : vs.length < 64)
    (h : ∀ (out : Array Value) (ns' : List Int), IntsAre out.toList ns' → ns'.Perm ns → ns'.Pairwise (· ≤ ·) → Q (.ref (s.heap.objs.size + 1)) { s with heap := sortedAll s.heap vs out }) :
    wpAny (model prog w) A (call (.builtin "sorted") [.ref l]) Q E s := by
  have hz : vs.length ≤ sizeLine := small64 h64
  refine Calls.call_function_entry kind_sorted plain_sorted entry_sorted (args_sorted1 _) ?_
  unfold Builtin.«sorted»
  refine wpAny_bind (m := checkCount "sorted" 1 1 _) (wpAny_pure (wpAny_bind (collect_tup hl hz (wpAny_bind (wpAny_newList ?_ hz)))))
  have size1 : ((s.heap.push (seqObj "list" #[] 0)).update s.heap.objs.size (Obj.mapSeq (· ++ vs.toArray))).objs.size = s.heap.objs.size + 1 := by
    rw [Heap.size_update, size_push']
  have copy : (((s.heap.push (seqObj "list" #[] 0)).update s.heap.objs.size (Obj.mapSeq (· ++ vs.toArray))).push (seqObj "list" vs.toArray 0)).get? (s.heap.objs.size + 1) = some (seqObj "list" vs.toArray 0) := by
    rw [← size1]
    exact Heap.get?_push_size _ rfl
  show wpAny _ _ _ _ _ { s with heap := ((s.heap.push (seqObj "list" #[] 0)).update s.heap.objs.size (Obj.mapSeq (· ++ vs.toArray))).push (seqObj "list" vs.toArray 0) }
  rw [size1]
  refine wpAny_bind (wpAny_holding (wpAny_call_entry slot_list_sort ⟨_, copy, rfl⟩ entry_list_sort (list_sort_tree copy hI h64 fun out ns' a1 a2 a3 => ⟨_, rfl, ?_⟩) (args_list_sort _)))
  exact wpAny_pure ⟨_, rfl, h out ns' a1 a2 a3⟩
end
section
variable {X : Cx}
def rSortedTup (K : PySem.W.Frag) : List V → Hp → VK → Prop := fun vs H Q => ∃ (a : Addr) (ns : List Int), vs = [V.ref a] ∧ SqT K H a (ns.map V.int) ∧ ns.length < 64 ∧
  ∀ (ns' : List Int) (p : Addr), ns'.Perm ns → ns'.Pairwise (· ≤ ·) → H p = none → Q (.ref p) (upd H p (.lst (ns'.map V.int)))
theorem sortedTupK {K : PySem.W.Frag} (h : X.K = K := by rfl) : CallR X (.builtin "sorted") (rSortedTup K) := by
  subst h
  rintro pins s σ H vs us Q I r ⟨a, ns, rfl, hs, h64, q⟩
  obtain ⟨its, rv, hl, _⟩ := I.tuple hs
  rw [Vals.ref1 r]
  have hi := rv.ints
  refine sorted_tup_ints hl hi (by rw [hi.length]; exact h64) fun out ns' h1 h2 h3 => ?_
  obtain ⟨ep, there⟩ := PyProof.Rows.sortedAll_at s.heap its out
  refine ⟨.ref _, _, I.laid (t' := s.toks) (o := .lst (ns'.map V.int)) (fun _ _ => PyProof.Rows.sortedAll_old) (Nat.le_succ _) ⟨?_, out.toList, ep, vals_of_ints h1, there⟩, rfl, q ns' _ h2 h3 (I.hok.fresh (Nat.le_succ _))⟩
  rw [List.length_map, h2.length_eq]
  exact small64 h64
end
end PLR

/-! PLRo -/
set_option Elab.async false
set_option linter.all false
set_option maxRecDepth 100000
set_option maxHeartbeats 4000000
namespace PLR
open PySem PySem.Spec PyProof.Rows L2 PLM
theorem Tp.put {H : Hp} {a p : Addr} {s : S} {o u : HO} (h : Tp H a s) (hp : H p = some u) (ne : ∀ zs, u ≠ .tup zs := by intro zs z; cases z) : Tp (upd H p o) a s := by
  unfold Tp
  rw [upd_ne (ne_of h hp fun e => ne _ e.symm)]
  exact h
theorem Sts.put {H : Hp} {as : List Addr} {ss : List S} {p : Addr} {o u : HO} (h : Sts H as ss) (hp : H p = some u) (ne : ∀ zs, u ≠ .tup zs := by intro zs z; cases z) : Sts (upd H p o) as ss :=
  ⟨h.1, fun i a s h1 h2 => (h.2 i a s h1 h2).put hp ne⟩
theorem atI_neg1 {xs : List V} {v : V} (h : xs[xs.length - 1]? = some v) : atI xs (-1) = some v := by
  have ne : xs ≠ [] := fun e => by subst e; simp at h
  have e : xs = xs.dropLast ++ [v] := by
    have h1 := List.dropLast_concat_getLast ne
    have h2 : xs.getLast ne = v := by
      rw [List.getLast_eq_getElem]
      exact (List.getElem?_eq_some_iff.mp h).2
    rw [h2] at h1
    exact h1.symm
  rw [e]
  exact atI_last _ _
theorem Sts.last {H : Hp} {as : List Addr} {ss : List S} {u : S} (h : Sts H as ss) (e : ss[ss.length - 1]? = some u) : ∃ a, (as.map V.ref)[(as.map V.ref).length - 1]? = some (.ref a) ∧ Tp H a u := by
  have hi : ss.length - 1 < ss.length := (List.getElem?_eq_some_iff.mp e).1
  have hi2 : ss.length - 1 < as.length := by rw [h.1]; exact hi
  refine ⟨as[ss.length - 1], ?_, h.2 _ _ _ (List.getElem?_eq_getElem hi2) e⟩
  rw [List.length_map, h.1, List.getElem?_map, List.getElem?_eq_getElem hi2]
  rfl
theorem wipe1 {σ : L2.St} {i : Nat} {x : Option V} : wipe ((wipe σ [i]).set i x) [i] = wipe σ [i] := by
  show ((σ.set i none).set i x).set i none = σ.set i none
  rw [List.set_set, List.set_set]
/-- [k for k in t if test], the test leaving the heap as it is -/
theorem lc_pure {K : PySem.W.Frag} {a : Addr} {xs : List Int} {i : Nat} {tt : TT} {σ : L2.St} {H : Hp} {D : Addr} {Qd : Hp → Prop} (p : Int → Bool) (hi : i < σ.length) (hD : H D = none) (hx : SqT K H a (xs.map V.int)) (small : xs.length ≤ 1000)
    (ht : ∀ k ∈ xs, ∀ (l : List Int) (Q' : Bool → Hp → Prop), Q' (p k) (upd H D (.lst (l.map V.int))) → tt ((wipe σ [i]).set i (some (.int k))) (upd H D (.lst (l.map V.int))) Q') (hd : Qd (upd H D (.lst ((xs.filter p).map V.int)))) :
    ∃ W : Nat → Nat → Hp → Prop, (∃ m, W 0 m (upd H D (.lst []))) ∧ ∀ j m H, W j m H →
      ((Itt K a).stop j H ∧ Qd H) ∨ ((Itt K a).go j H ∧ ∃ Nx : Hp → Prop, (∀ H', Nx H' → ∃ m', m' < m ∧ W (j + 1) m' H') ∧ ∀ x H', (Itt K a).yld j H x H' → gName i x (wipe σ [i]) H' fun σ2 H2 => wipe σ2 [i] = wipe σ [i] ∧ tt σ2 H2 fun b H3 =>
        if b = true then tVar i σ2 H3 fun y H4 => ∃ acc, H4 D = some (.lst acc) ∧ acc.length < sizeLine ∧ Nx (upd H4 D (.lst (acc ++ [y]))) else Nx H3) := by
  refine lc_tup (K := K) (a := a) (xs := xs.map V.int) (fun j H' => H' = upd H D (.lst (((xs.take j).filter p).map V.int))) rfl
    (fun j H' _ e => by subst e; exact seqT ((Same.refl H).new hD) hx) (fun j v H1 hv hP => ?_) (fun H1 hP => ?_)
  · subst hP
    obtain ⟨k, rfl, hk, km⟩ := get_ints hv
    refine ⟨wipe1, ht k km _ _ ?_⟩
    have fl := filter_snoc (p := p) hk
    have l1 := List.length_filter_le p (xs.take j)
    rw [List.length_take] at l1
    cases e : p k with
    | false =>
      refine iteF ?_
      rw [fl, e]
      simp
    | true =>
      refine iteT ⟨.int k, ?_, _, upd_same, by rw [List.length_map]; exact small1000 (by omega), ?_⟩
      · rw [List.getElem?_set_self]
        show i < (σ.set i none).length
        rw [List.length_set]
        exact hi
      · rw [upd_upd, fl, e]
        simp
  · subst hP
    rw [List.length_map, List.take_length]
    exact hd
theorem filter_nil_iff {p : Int → Bool} {xs : List Int} : decide ((xs.filter p) = []) = true ↔ ∀ k ∈ xs, p k = false := by
  rw [decide_eq_true_eq, List.filter_eq_nil_iff]
  constructor
  · intro h k hk
    exact Bool.eq_false_iff.mpr (h k hk)
  · intro h k hk
    exact Bool.eq_false_iff.mp (h k hk)
end PLR

/-! PLWa -/
set_option Elab.async false
set_option linter.all false
set_option maxRecDepth 100000
set_option maxHeartbeats 4000000
namespace PLW
open PySem PySem.Spec PyProof.Rows L2 PLM PLR
section
variable {P : Program} {w : World} {K : PySem.W.Frag} {mg : Str → Option Value} {base : Heap}
/-! ### is_in -/
def sp_is_in : Sp := fun vs H Q _ => ∃ v lo hi : Int, vs = [.int v, .int lo, .int hi] ∧ Q (.bl (decide (lo ≤ v) && decide (v ≤ hi))) H
abbrev N_is_in : List PySem.Str := ["value", "least", "most"]
theorem sc_is_in : FnScope N_is_in ["value", "least", "most"] (defScope s_is_in) := ⟨rfl, rfl, rfl, by decide +kernel, rfl, by decide +kernel, by decide +kernel⟩
-- deps: ; slots: 0:value 1:least 2:most
theorem ok_is_in (F : Src K mg "is_in" s_is_in) (T : Txt mg)  : Def P w K mg base 1 "is_in" ["value", "least", "most"] sp_is_in := by
  refine mkDef F sc_is_in (fun _ _ _ _ _ _ us hl => match us, hl with | [_, _, _], _ => rfl) (fun vs H Q E h => ?_) (fun f cdv A outer s H vs Q E hr h => ?_)
  · first | (obtain ⟨_, rfl, _⟩ := h; rfl) | (obtain ⟨_, _, rfl, _⟩ := h; rfl) | (obtain ⟨_, _, _, rfl, _⟩ := h; rfl) | (obtain ⟨_, _, _, _, rfl, _⟩ := h; rfl) | (obtain ⟨_, _, _, _, _, rfl, _⟩ := h; rfl) | (obtain ⟨_, _, _, _, _, _, rfl, _⟩ := h; rfl) | (obtain ⟨_, _, _, _, _, _, _, rfl, _⟩ := h; rfl) | (obtain ⟨_, _, _, _, _, _, _, _, rfl, _⟩ := h; rfl) | (obtain ⟨_, _, _, _, _, _, _, _, _, rfl, _⟩ := h; rfl) | (obtain ⟨_, _, _, _, _, _, _, _, _, _, rfl, _⟩ := h; rfl) | (obtain ⟨_, _, _, _, _, _, _, _, _, _, _, rfl, _⟩ := h; rfl)
  obtain ⟨v, lo, hi, rfl, q⟩ := h
  have nd := sc_is_in.nd
  refine ⟨_, (pss_one (ps_ret (pe_and (pe_callB isiK (by rfl) T.b_isinstance (by decide +kernel) (pa_cons (pv 0) (pa_cons (pe_bltn (v := .ty "int") (by rfl) T.b_int (by decide +kernel) rfl) pa_nil))) (pe_and (pe_not (pe_callB isiK (by rfl) T.b_isinstance (by decide +kernel) (pa_cons (pv 0) (pa_cons (pe_bltn (v := .ty "bool") (by rfl) T.b_bool (by decide +kernel) rfl) pa_nil)))) (pe_one (pe_chain op_le op_le (pv 1) (pv 0) (pv 2))))))), ?_⟩
  refine ⟨_, rfl, _, .ty "int", _, _, true, rfl, .ty _, .base (.int v), kit_ty (by decide +kernel), true, rfl, iteT ?_⟩
  refine ⟨_, rfl, _, .ty "bool", _, _, false, rfl, .ty _, .base (.int v), kit_ty (by decide +kernel), false, rfl, true, rfl, iteT ?_⟩
  refine ⟨_, rfl, _, rfl, _, _, rfl, rfl, _, rfl, ?_⟩
  by_cases h : lo ≤ v
  · rw [decide_eq_true h] at q ⊢
    exact iteT ⟨_, rfl, _, _, rfl, rfl, q⟩
  · rw [decide_eq_false h] at q ⊢
    exact iteF q
/-! ### is_arrow -/
def sp_is_arrow : Sp := fun vs H Q _ => ∃ (a : Addr) (x y n : Int), vs = [.ref a, .int n] ∧ H a = some (.tup [.int x, .int y]) ∧ (0 ≤ x ∧ x < n) ∧ (0 ≤ y ∧ y < n) ∧ x ≠ y ∧ ∀ H', Same H H' → Q (.bl true) H'
abbrev N_is_arrow : List PySem.Str := ["value", "many", "one"]
theorem sc_is_arrow : FnScope N_is_arrow ["value", "many"] (defScope s_is_arrow) := ⟨rfl, rfl, rfl, by decide +kernel, rfl, by decide +kernel, by decide +kernel⟩
-- deps: is_in; slots: 0:value 1:many(cell) 2:one
theorem ok_is_arrow (F : Src K mg "is_arrow" s_is_arrow) (T : Txt mg) (D_is_in : Def P w K mg base 1 "is_in" ["value", "least", "most"] sp_is_in) : Def P w K mg base 2 "is_arrow" ["value", "many"] sp_is_arrow := by
  refine mkDef F sc_is_arrow (fun _ _ _ _ _ _ us hl => match us, hl with | [_, _], _ => rfl) (fun vs H Q E h => ?_) (fun f cdv A outer s H vs Q E hr h => ?_)
  · first | (obtain ⟨_, rfl, _⟩ := h; rfl) | (obtain ⟨_, _, rfl, _⟩ := h; rfl) | (obtain ⟨_, _, _, rfl, _⟩ := h; rfl) | (obtain ⟨_, _, _, _, rfl, _⟩ := h; rfl) | (obtain ⟨_, _, _, _, _, rfl, _⟩ := h; rfl) | (obtain ⟨_, _, _, _, _, _, rfl, _⟩ := h; rfl) | (obtain ⟨_, _, _, _, _, _, _, rfl, _⟩ := h; rfl) | (obtain ⟨_, _, _, _, _, _, _, _, rfl, _⟩ := h; rfl) | (obtain ⟨_, _, _, _, _, _, _, _, _, rfl, _⟩ := h; rfl) | (obtain ⟨_, _, _, _, _, _, _, _, _, _, rfl, _⟩ := h; rfl) | (obtain ⟨_, _, _, _, _, _, _, _, _, _, _, rfl, _⟩ := h; rfl)
  obtain ⟨a, x, y, n, rfl, ha, hx, hy, hxy, q⟩ := h
  have nd := sc_is_arrow.nd
  refine ⟨_, (pss_cons (ps_if (PW.pt (pw_or (pt_not (pt_val (pe_callB isiK (by rfl) T.b_isinstance (by decide +kernel) (pa_cons (pv 0) (pa_cons (pe_bltn (v := .ty "tuple") (by rfl) T.b_tuple (by decide +kernel) rfl) pa_nil))))) (pw_or1 (pt_cmpR op_ne (pe_callB lenK (by rfl) T.b_len (by decide +kernel) (pa_cons (pv 0) pa_nil)) pe_int (nomark _))))) (pss_one (ps_ret pe_bl)) pss_nil)
      (pss_one (ps_ret (pe_and (pe_cmpR (op_eqDK hr.units) (pe_lc (own := [("one", 2)]) (g := (gName 2)) (by rfl) nd (pi_tupK (pv 0)) (blkK (own := [("one", 2)]) (N := N_is_arrow) (sc := defScope s_is_arrow) (by decide +kernel)) (fun _ _ _ _ _ => (pg_name (i := 2) nd rfl (Or.inl rfl))) (fun _ _ _ _ _ => pts_one (pt_not (pt_val (pc D_is_in (hr.mono (by decide)) (pa_cons (pv 2) (pa_cons pe_int (pa_cons (pe_op op_sub (pv 1) pe_int) pa_nil))))))) (fun _ _ _ _ _ => (pv 2))) (pe_lst pa_nil) (nomark _)) (pe_one (pe_cmpR op_ne (pe_ix ix_tupK (pv 0) pe_int (fun _ _ => rfl)) (pe_ix ix_tupK (pv 0) pe_int (fun _ _ => rfl)) (nomark _))))))), ?_⟩
  refine ⟨_, rfl, _, .ty "tuple", _, _, true, rfl, .ty _, .base (.tup ha), kit_ty (by decide +kernel), true, rfl, ?_⟩
  refine iteF ⟨_, rfl, a, _, rfl, .inr (tq ha), rfl, _, rfl, iteF ?_⟩
  refine ⟨_, rfl, a, rfl, ⟨_, tq ha⟩, fun D hD => ?_⟩
  have S0 : Same H (upd H D (.lst [])) := (Same.refl H).new hD
  refine lc_tup (K := K) (a := a) (xs := [.int x, .int y]) (fun i H' => H' = upd H D (.lst [])) rfl (fun i H' _ e => ?_) (fun i z H' hz e => ?_) (fun H' e => ?_)
  · subst e
    exact tq (up ha hD)
  · subst e
    have hin : ∃ k, z = .int k ∧ 0 ≤ k ∧ k < n := by
      match i, hz with
      | 0, hz => exact ⟨x, (Option.some.inj hz).symm, hx⟩
      | 1, hz => exact ⟨y, (Option.some.inj hz).symm, hy⟩
      | i + 2, hz => simp at hz
    obtain ⟨k, rfl, k0, k1⟩ := hin
    refine ⟨rfl, ⟨_, rfl, _, rfl, n, 1, rfl, rfl, k, 0, n - 1, rfl, true, ?_, iteF rfl⟩⟩
    rw [decide_eq_true k0, decide_eq_true (show k ≤ n - 1 by omega)] <;> rfl
  · subst e
    refine ⟨Nat.zero_le _, fun E1 hE1 => ⟨.list [], .list [], .lst (lq (up upd_same hE1)) .nil, .lst (lq upd_same) .nil, nil_shaped, nil_shaped, true, ?_, iteT ?_⟩⟩
    · simp [PyData.eqv, PyData.eqvAll]
    · have h2 : (upd (upd H D (.lst [])) E1 (.lst [])) a = some (.tup [.int x, .int y]) := up (up ha hD) hE1
      refine ⟨_, rfl, a, _, 0, .int x, rfl, rfl, tq h2, atI_nat (j := 0) rfl, _, rfl, a, _, 1, .int y, rfl, rfl, tq h2, atI_nat (j := 1) rfl, rfl, ?_⟩
      have ne : (!decide (V.int x = V.int y)) = true := by simp [hxy]
      rw [ne]
      exact q _ (S0.new hE1)
/-! ### need_web -/
def sp_need_web : Sp := fun vs H Q _ => ∃ (wa : Addr) (n : Int) (ar : Ar), vs = [.ref wa] ∧ WebAt H wa n ar ∧ ∀ H', Same H H' → Q .non H'
abbrev N_need_web : List PySem.Str := ["web", "index", "one"]
theorem sc_need_web : FnScope N_need_web ["web"] (defScope s_need_web) := ⟨rfl, rfl, rfl, by decide +kernel, rfl, by decide +kernel, by decide +kernel⟩
-- deps: is_in is_arrow; slots: 0:web 1:index 2:one
theorem ok_need_web (F : Src K mg "need_web" s_need_web) (T : Txt mg) (D_is_in : Def P w K mg base 1 "is_in" ["value", "least", "most"] sp_is_in) (D_is_arrow : Def P w K mg base 2 "is_arrow" ["value", "many"] sp_is_arrow) : Def P w K mg base 3 "need_web" ["web"] sp_need_web := by
  refine mkDef F sc_need_web (fun _ _ _ _ _ _ us hl => match us, hl with | [_], _ => rfl) (fun vs H Q E h => ?_) (fun f cdv A outer s H vs Q E hr h => ?_)
  · first | (obtain ⟨_, rfl, _⟩ := h; rfl) | (obtain ⟨_, _, rfl, _⟩ := h; rfl) | (obtain ⟨_, _, _, rfl, _⟩ := h; rfl) | (obtain ⟨_, _, _, _, rfl, _⟩ := h; rfl) | (obtain ⟨_, _, _, _, _, rfl, _⟩ := h; rfl) | (obtain ⟨_, _, _, _, _, _, rfl, _⟩ := h; rfl) | (obtain ⟨_, _, _, _, _, _, _, rfl, _⟩ := h; rfl) | (obtain ⟨_, _, _, _, _, _, _, _, rfl, _⟩ := h; rfl) | (obtain ⟨_, _, _, _, _, _, _, _, _, rfl, _⟩ := h; rfl) | (obtain ⟨_, _, _, _, _, _, _, _, _, _, rfl, _⟩ := h; rfl) | (obtain ⟨_, _, _, _, _, _, _, _, _, _, _, rfl, _⟩ := h; rfl)
  obtain ⟨tl_lamps, h_MOST_LAMPS⟩ := T.lamps
  obtain ⟨wa, n, ar, rfl, W, q⟩ := h
  obtain ⟨t, as, h1, h2, h3⟩ := W.ex
  have gw := W.gw
  have nd := sc_need_web.nd
  refine ⟨_, (pss_cons (ps_if (PW.pt (pw_or (pt_not (pt_val (pe_callB isiK (by rfl) T.b_isinstance (by decide +kernel) (pa_cons (pv 0) (pa_cons (pe_bltn (v := .ty "tuple") (by rfl) T.b_tuple (by decide +kernel) rfl) pa_nil))))) (pw_or (pt_cmpR op_ne (pe_callB lenK (by rfl) T.b_len (by decide +kernel) (pa_cons (pv 0) pa_nil)) pe_int (nomark _)) (pw_or1 (pt_not (pt_val (pe_callB isiK (by rfl) T.b_isinstance (by decide +kernel) (pa_cons (pe_ix ix_tupK (pv 0) pe_int (fun _ _ => rfl)) (pa_cons (pe_bltn (v := .ty "tuple") (by rfl) T.b_tuple (by decide +kernel) rfl) pa_nil))))))))) pss_never pss_nil)
      (pss_cons (ps_if (pt_not (pt_val (pc D_is_in (hr.mono (by decide)) (pa_cons (pe_ix ix_tupK (pv 0) pe_int (fun _ _ => rfl)) (pa_cons pe_int (pa_cons (pe_glob (v := .int 9) (by rfl) h_MOST_LAMPS ⟨_, rfl⟩) pa_nil)))))) pss_never pss_nil)
      (pss_one (ps_for PassesOwn.never rfl (pi_enumTK (by rfl) T.b_enumerate (pa_cons (pe_ix ix_tupK (pv 0) pe_int (fun _ _ => rfl)) pa_nil)) (pg_tup rfl (pgs_cons (pg_name (i := 1) nd rfl (.inl rfl)) (pgs_cons (pg_name (i := 2) nd rfl (.inl rfl)) pgs_nil))) (pss_one (ps_if (PW.pt (pw_or (pt_not (pt_val (pc D_is_arrow (hr.mono (by decide)) (pa_cons (pv 2) (pa_cons (pe_ix ix_tupK (pv 0) pe_int (fun _ _ => rfl)) pa_nil))))) (pw_or1 (PW.pt (pw_and (pt_cmpR op_gt (pv 1) pe_int (nomark _)) (pw_and1 (pt_cmpR (op_leTK hr.units0) (pv 2) (pe_ix ix_tupK (pe_ix ix_tupK (pv 0) pe_int (fun _ _ => rfl)) (pe_op op_sub (pv 1) pe_int) (fun _ _ => rfl)) (nomark _)))))))) pss_never pss_nil)))))), ?_⟩
  refine ⟨_, rfl, _, .ty "tuple", _, _, true, rfl, .ty _, .base (.tup h1), kit_ty (by decide +kernel), true, rfl, ?_⟩
  refine iteF ⟨_, rfl, wa, _, rfl, .inr (tq h1), rfl, _, rfl, iteF ?_⟩
  refine ⟨_, rfl, wa, _, 1, .ref t, rfl, rfl, tq h1, atI_nat (j := 1) rfl, _, .ty "tuple", _, _, true, rfl, .ty _, .base (.tup h2), kit_ty (by decide +kernel), true, rfl, iteF ?_⟩
  refine ⟨_, rfl, wa, _, 0, .int n, rfl, rfl, tq h1, atI_nat (j := 0) rfl, n, 1, 9, rfl, true, ?_, iteF ?_⟩
  · have a1 := gw.n1
    have a2 := gw.n7
    rw [decide_eq_true a1, decide_eq_true (show n ≤ 9 by omega)] <;> rfl
  refine ⟨_, rfl, wa, _, 1, .ref t, rfl, rfl, tq h1, atI_nat (j := 1) rfl, t, _, rfl, tq h2, ?_⟩
  refine for_it (walk_enumT (xs := as.map V.ref)) (fun i σ H' => ∃ y1 y2, σ = [some (.ref wa), y1, y2] ∧ Same H H') ⟨none, none, rfl, Same.refl H⟩ (fun i σ H' _ ⟨_, _, _, sm⟩ => tq (sm _ _ h2)) (fun i x σ H1 H2 hi hP hY => ?_) (fun σ H' ⟨_, _, _, sm⟩ => q H' sm)
  obtain ⟨y1, y2, rfl, sm⟩ := hP
  obtain ⟨A1, x1, x2, rfl, nA, rfl, e1, e2⟩ := hY
  obtain rfl : V.int (i : Nat) = x1 := Option.some.inj e1
  obtain ⟨b, x, y, rfl, hb1, hb2, hb3⟩ := h3.get e2
  have sm2 : Same H (upd H1 A1 (.tup [.int (i : Nat), .ref b])) := sm.new nA
  have hr0 := gw.rng _ (List.mem_of_getElem? hb2)
  refine ⟨A1, _, rfl, tq upd_same, rfl, .int (i : Nat), [.ref b], rfl, .ref b, [], rfl, rfl, ?_⟩
  refine ⟨.ref b, rfl, .ref wa, rfl, wa, _, 0, .int n, rfl, rfl, tq (sm2 _ _ h1), atI_nat (j := 0) rfl, b, x, y, n, rfl, sm2 _ _ hb3, hr0.1, hr0.2.1, hr0.2.2, fun H3 sm3 => ⟨true, rfl, ?_⟩⟩
  have sm4 : Same H H3 := sm2.trans sm3
  refine iteF ⟨_, rfl, (i : Nat), 0, rfl, rfl, _, rfl, ?_⟩
  by_cases hi0 : (0 : Int) < (i : Nat)
  · rw [decide_eq_true hi0]
    obtain ⟨j, rfl⟩ : ∃ j, i = j + 1 := ⟨i - 1, by omega⟩
    have hj : j < as.length := by
      have := (List.getElem?_eq_some_iff.mp hb1).1
      omega
    have ep : (as.map V.ref)[j]? = some (V.ref as[j]) := by rw [List.getElem?_map, List.getElem?_eq_getElem hj] <;> rfl
    obtain ⟨b', x', y', eb, c1, c2, c3⟩ := h3.get ep
    have eb := V.ref.inj eb
    have lt := pw_at gw.asc c2 hb2 (Nat.lt_succ_self j)
    refine iteT ⟨.ref b, rfl, .ref wa, rfl, wa, _, 1, .ref t, rfl, rfl, tq (sm4 _ _ h1), atI_nat (j := 1) rfl, .int ((j + 1 : Nat) : Int), rfl, _, 1, rfl, rfl, t, _, _, .ref as[j], rfl, rfl, tq (sm4 _ _ h2), ?_, b, b', [x, y], [x', y'], rfl, ?_, tq (sm4 _ _ hb3), tq (sm4 _ _ c3), false, ?_, iteF ⟨_, _, rfl, sm4⟩⟩
    · rw [show ((j + 1 : Nat) : Int) - 1 = (j : Int) by omega]
      exact atI_nat ep
    · rw [eb]
    · rw [lex_pair lt]
  · rw [decide_eq_false hi0]
    exact iteF (iteF ⟨_, _, rfl, sm4⟩)
/-! ### need_burning -/
def sp_need_burning : Sp := fun vs H Q _ => ∃ (wa b : Addr) (n : Int) (ar : Ar) (s : S), vs = [.ref wa, .ref b] ∧ WebAt H wa n ar ∧ Tp H b s ∧ Good n s ∧ ∀ H', Same H H' → Q .non H'
abbrev N_need_burning : List PySem.Str := ["web", "burning", "index", "one"]
theorem sc_need_burning : FnScope N_need_burning ["web", "burning"] (defScope s_need_burning) := ⟨rfl, rfl, rfl, by decide +kernel, rfl, by decide +kernel, by decide +kernel⟩
-- deps: is_in; slots: 0:web 1:burning 2:index 3:one
theorem ok_need_burning (F : Src K mg "need_burning" s_need_burning) (T : Txt mg) (D_is_in : Def P w K mg base 1 "is_in" ["value", "least", "most"] sp_is_in) : Def P w K mg base 2 "need_burning" ["web", "burning"] sp_need_burning := by
  refine mkDef F sc_need_burning (fun _ _ _ _ _ _ us hl => match us, hl with | [_, _], _ => rfl) (fun vs H Q E h => ?_) (fun f cdv A outer s H vs Q E hr h => ?_)
  · first | (obtain ⟨_, rfl, _⟩ := h; rfl) | (obtain ⟨_, _, rfl, _⟩ := h; rfl) | (obtain ⟨_, _, _, rfl, _⟩ := h; rfl) | (obtain ⟨_, _, _, _, rfl, _⟩ := h; rfl) | (obtain ⟨_, _, _, _, _, rfl, _⟩ := h; rfl) | (obtain ⟨_, _, _, _, _, _, rfl, _⟩ := h; rfl) | (obtain ⟨_, _, _, _, _, _, _, rfl, _⟩ := h; rfl) | (obtain ⟨_, _, _, _, _, _, _, _, rfl, _⟩ := h; rfl) | (obtain ⟨_, _, _, _, _, _, _, _, _, rfl, _⟩ := h; rfl) | (obtain ⟨_, _, _, _, _, _, _, _, _, _, rfl, _⟩ := h; rfl) | (obtain ⟨_, _, _, _, _, _, _, _, _, _, _, rfl, _⟩ := h; rfl)
  obtain ⟨wa, b, n, ar, s0, rfl, W, hb, g, q⟩ := h
  obtain ⟨t, as, h1, h2, h3⟩ := W.ex
  have nd := sc_need_burning.nd
  refine ⟨_, (pss_cons (ps_if (pt_not (pt_val (pe_callB isiK (by rfl) T.b_isinstance (by decide +kernel) (pa_cons (pv 1) (pa_cons (pe_bltn (v := .ty "tuple") (by rfl) T.b_tuple (by decide +kernel) rfl) pa_nil))))) pss_never pss_nil)
      (pss_one (ps_for PassesOwn.never rfl (pi_enumTK (by rfl) T.b_enumerate (pa_cons (pv 1) pa_nil)) (pg_tup rfl (pgs_cons (pg_name (i := 2) nd rfl (.inl rfl)) (pgs_cons (pg_name (i := 3) nd rfl (.inl rfl)) pgs_nil))) (pss_one (ps_if (PW.pt (pw_or (pt_not (pt_val (pc D_is_in (hr.mono (by decide)) (pa_cons (pv 3) (pa_cons pe_int (pa_cons (pe_op op_sub (pe_ix ix_tupK (pv 0) pe_int (fun _ _ => rfl)) pe_int) pa_nil)))))) (pw_or1 (PW.pt (pw_and (pt_cmpR op_gt (pv 2) pe_int (nomark _)) (pw_and1 (pt_cmpR op_le (pv 3) (pe_ix ix_tupK (pv 1) (pe_op op_sub (pv 2) pe_int) (fun _ _ => rfl)) (nomark _)))))))) pss_never pss_nil))))), ?_⟩
  refine ⟨_, rfl, _, .ty "tuple", _, _, true, rfl, .ty _, .base (.tup hb), kit_ty (by decide +kernel), true, rfl, iteF ?_⟩
  refine ⟨_, rfl, b, _, rfl, hb.sq, ?_⟩
  refine for_it (walk_enumT (xs := s0.map V.int)) (fun i σ H' => ∃ y1 y2, σ = [some (.ref wa), some (.ref b), y1, y2] ∧ Same H H') ⟨none, none, rfl, Same.refl H⟩ (fun i σ H' _ ⟨_, _, _, sm⟩ => (hb.to sm).sq) (fun i x σ H1 H2 hi hP hY => ?_) (fun σ H' ⟨_, _, _, sm⟩ => q H' sm)
  obtain ⟨y1, y2, rfl, sm⟩ := hP
  obtain ⟨A1, x1, x2, rfl, nA, rfl, e1, e2⟩ := hY
  obtain rfl : V.int (i : Nat) = x1 := Option.some.inj e1
  rw [List.length_map] at hi
  have e2 : (s0.map V.int)[i]? = some x2 := e2
  obtain rfl : x2 = V.int s0[i] := by
    rw [List.getElem?_map, List.getElem?_eq_getElem hi] at e2
    exact (Option.some.inj e2).symm
  have sm2 : Same H (upd H1 A1 (.tup [.int (i : Nat), .int s0[i]])) := sm.new nA
  have hk := g.2 s0[i] (List.getElem_mem hi)
  refine ⟨A1, _, rfl, tq upd_same, rfl, .int (i : Nat), [.int s0[i]], rfl, .int s0[i], [], rfl, rfl, ?_⟩
  refine ⟨.int s0[i], rfl, .ref wa, rfl, wa, _, 0, .int n, rfl, rfl, tq (sm2 _ _ h1), atI_nat (j := 0) rfl, n, 1, rfl, rfl, s0[i], 0, n - 1, rfl, true, ?_, ?_⟩
  · rw [decide_eq_true hk.1, decide_eq_true (show s0[i] ≤ n - 1 by omega)] <;> rfl
  refine iteF ⟨_, rfl, (i : Nat), 0, rfl, rfl, _, rfl, ?_⟩
  by_cases hi0 : (0 : Int) < (i : Nat)
  · rw [decide_eq_true hi0]
    obtain ⟨j, rfl⟩ : ∃ j, i = j + 1 := ⟨i - 1, by omega⟩
    have lt := pw_at g.1 (List.getElem?_eq_getElem (show j < s0.length by omega)) (List.getElem?_eq_getElem hi) (Nat.lt_succ_self j)
    refine iteT ⟨_, rfl, .ref b, rfl, .int ((j + 1 : Nat) : Int), rfl, _, 1, rfl, rfl, b, _, _, .int s0[j], rfl, rfl, (hb.to sm2).sq, ?_, _, _, rfl, rfl, false, ?_, iteF ⟨_, _, rfl, sm2⟩⟩
    · rw [show ((j + 1 : Nat) : Int) - 1 = (j : Int) by omega]
      refine atI_nat ?_
      rw [List.getElem?_map, List.getElem?_eq_getElem (show j < s0.length by omega)] <;> rfl
    · show V.bl (decide (s0[j + 1] ≤ s0[j])) = V.bl false
      rw [decide_eq_false (show ¬ s0[j + 1] ≤ s0[j] by omega)]
  · rw [decide_eq_false hi0]
    exact iteF (iteF ⟨_, _, rfl, sm2⟩)
/-! ### need_both -/
def sp_need_both : Sp := sp_need_burning
abbrev N_need_both : List PySem.Str := ["web", "burning"]
theorem sc_need_both : FnScope N_need_both ["web", "burning"] (defScope s_need_both) := ⟨rfl, rfl, rfl, by decide +kernel, rfl, by decide +kernel, by decide +kernel⟩
-- deps: need_web need_burning; slots: 0:web 1:burning
theorem ok_need_both (F : Src K mg "need_both" s_need_both) (T : Txt mg) (D_need_web : Def P w K mg base 3 "need_web" ["web"] sp_need_web) (D_need_burning : Def P w K mg base 2 "need_burning" ["web", "burning"] sp_need_burning) : Def P w K mg base 4 "need_both" ["web", "burning"] sp_need_both := by
  refine mkDef F sc_need_both (fun _ _ _ _ _ _ us hl => match us, hl with | [_, _], _ => rfl) (fun vs H Q E h => ?_) (fun f cdv A outer s H vs Q E hr h => ?_)
  · first | (obtain ⟨_, rfl, _⟩ := h; rfl) | (obtain ⟨_, _, rfl, _⟩ := h; rfl) | (obtain ⟨_, _, _, rfl, _⟩ := h; rfl) | (obtain ⟨_, _, _, _, rfl, _⟩ := h; rfl) | (obtain ⟨_, _, _, _, _, rfl, _⟩ := h; rfl) | (obtain ⟨_, _, _, _, _, _, rfl, _⟩ := h; rfl) | (obtain ⟨_, _, _, _, _, _, _, rfl, _⟩ := h; rfl) | (obtain ⟨_, _, _, _, _, _, _, _, rfl, _⟩ := h; rfl) | (obtain ⟨_, _, _, _, _, _, _, _, _, rfl, _⟩ := h; rfl) | (obtain ⟨_, _, _, _, _, _, _, _, _, _, rfl, _⟩ := h; rfl) | (obtain ⟨_, _, _, _, _, _, _, _, _, _, _, rfl, _⟩ := h; rfl)
  obtain ⟨wa, b, n, ar, s0, rfl, W, hb, g, q⟩ := h
  have nd := sc_need_both.nd
  refine ⟨_, (pss_cons (ps_expr (pc D_need_web (hr.mono (by decide)) (pa_cons (pv 0) pa_nil)))
      (pss_one (ps_expr (pc D_need_burning (hr.mono (by decide)) (pa_cons (pv 0) (pa_cons (pv 1) pa_nil)))))), ?_⟩
  refine ⟨_, rfl, wa, n, ar, rfl, W, fun H1 S1 => ?_⟩
  exact ⟨_, rfl, _, rfl, wa, b, n, ar, s0, rfl, W.to S1, hb.to S1, g, fun H2 S2 => q H2 (S1.trans S2)⟩
end
end PLW

/-! PLWb -/
set_option Elab.async false
set_option linter.all false
set_option maxRecDepth 100000
set_option maxHeartbeats 4000000
namespace PLW
open PySem PySem.Spec PyProof.Rows L2 PLM PLR
section
variable {P : Program} {w : World} {K : PySem.W.Frag} {mg : Str → Option Value} {base : Heap}
/-! ### led_from -/
def sp_led_from : Sp := fun vs H Q _ => ∃ (wa b : Addr) (n : Int) (ar : Ar) (s : S), vs = [.ref wa, .ref b] ∧ WebAt H wa n ar ∧ Tp H b s ∧ Good n s ∧
  ∀ H' p (L : S), Same H H' → H p = none → H' p = some (.lst (L.map V.int)) → Good n L → (∀ x, x ∈ L ↔ ∃ a ∈ s, Lead ar a x) → Q (.ref p) H'
abbrev N_led_from : List PySem.Str := ["web", "some", "found", "rows", "here", "one", "other"]
theorem sc_led_from : FnScope N_led_from ["web", "some"] (defScope s_led_from) := ⟨rfl, rfl, rfl, by decide +kernel, rfl, by decide +kernel, by decide +kernel⟩
-- deps: ; slots: 0:web 1:some 2:found 3:rows 4:here 5:one 6:other
theorem ok_led_from (F : Src K mg "led_from" s_led_from) (T : Txt mg)  : Def P w K mg base 1 "led_from" ["web", "some"] sp_led_from := by
  refine mkDef F sc_led_from (fun _ _ _ _ _ _ us hl => match us, hl with | [_, _], _ => rfl) (fun vs H Q E h => ?_) (fun f cdv A outer s H vs Q E hr h => ?_)
  · first | (obtain ⟨_, rfl, _⟩ := h; rfl) | (obtain ⟨_, _, rfl, _⟩ := h; rfl) | (obtain ⟨_, _, _, rfl, _⟩ := h; rfl) | (obtain ⟨_, _, _, _, rfl, _⟩ := h; rfl) | (obtain ⟨_, _, _, _, _, rfl, _⟩ := h; rfl) | (obtain ⟨_, _, _, _, _, _, rfl, _⟩ := h; rfl) | (obtain ⟨_, _, _, _, _, _, _, rfl, _⟩ := h; rfl) | (obtain ⟨_, _, _, _, _, _, _, _, rfl, _⟩ := h; rfl) | (obtain ⟨_, _, _, _, _, _, _, _, _, rfl, _⟩ := h; rfl) | (obtain ⟨_, _, _, _, _, _, _, _, _, _, rfl, _⟩ := h; rfl) | (obtain ⟨_, _, _, _, _, _, _, _, _, _, _, rfl, _⟩ := h; rfl)
  obtain ⟨wa, b, n, ar, s0, rfl, W, hb, g, q⟩ := h
  obtain ⟨t, as, h1, h2, h3⟩ := W.ex
  have gw := W.gw
  have nd := sc_led_from.nd
  refine ⟨_, (pss_cons (ps_par (i := 2) (j := 3) (by rfl) nd rfl rfl (by decide) rfl rfl (pa_cons (pe_callTy listK (by rfl) T.b_list (by decide +kernel) (pa_cons (pv 1) pa_nil)) (pa_cons (pe_callTy listK (by rfl) T.b_list (by decide +kernel) (pa_cons (pv 1) pa_nil)) pa_nil)) (by rfl))
      (pss_cons (ps_while PassesOwn.never (pt_cmpR (op_neDK hr.units) (pv 3) (pe_lst pa_nil) (nomark _)) (pss_cons (ps_set (i := 4) nd rfl (.inl rfl) (pe_bm0 PySem.F.plainAttrs_list PySem.F.slot_list_pop PySem.F.type_list_pop mt_pop (pv 3)))
      (pss_one (ps_for PassesOwn.never rfl (pi_tupK (pe_ix ix_tupK (pv 0) pe_int (fun _ _ => rfl))) (pg_tup rfl (pgs_cons (pg_name (i := 5) nd rfl (.inl rfl)) (pgs_cons (pg_name (i := 6) nd rfl (.inl rfl)) pgs_nil))) (pss_one (ps_if (PW.pt (pw_and (pt_cmpR op_eq (pv 5) (pv 4) (nomark _)) (pw_and1 (pt_cmpR op_notInK (pv 6) (pv 2) (by rfl))))) (pss_cons (ps_expr (pe_bm PySem.F.plainAttrs_list PySem.F.slot_list_append PySem.F.type_list_append mt_append (pv 2) (pa_cons (pv 6) pa_nil)))
      (pss_one (ps_expr (pe_bm PySem.F.plainAttrs_list PySem.F.slot_list_append PySem.F.type_list_append mt_append (pv 3) (pa_cons (pv 6) pa_nil))))) pss_nil))))))
      (pss_one (ps_ret (pe_callB sortedK (by rfl) T.b_sorted (by decide +kernel) (pa_cons (pv 2) pa_nil)))))), ?_⟩
  refine ⟨.ref b, rfl, b, _, rfl, .inr hb.sq, fun fo nfo => ?_⟩
  refine ⟨.ref b, rfl, b, _, rfl, .inr (hb.to ((Same.refl H).new nfo)).sq, fun ro nro => ?_⟩
  have nfr : fo ≠ ro := fun e => by
    rw [e, upd_same] at nro
    cases nro
  have hro0 : H ro = none := by
    rw [upd_ne nfr.symm] at nro
    exact nro
  refine ⟨_, _, rfl, ?_⟩
  refine ⟨fun m σ H' => ∃ (f r : S) (y4 y5 y6 : Option V), σ = [some (.ref wa), some (.ref b), some (.ref fo), some (.ref ro), y4, y5, y6] ∧ Same H H' ∧ H' fo = some (.lst (f.map V.int)) ∧ H' ro = some (.lst (r.map V.int)) ∧ LF n ar s0 f r ∧
    (∀ x ∈ f, x ∉ r → ∀ y, (x, y) ∈ ar → y ∈ f) ∧ m = 2 * (n.toNat - f.length) + r.length,
    ⟨_, s0, s0, none, none, none, rfl, ((Same.refl H).new nfo).new nro, by rw [upd_ne nfr, upd_same], upd_same, LF.start g, fun x h1 h2 => absurd h1 h2, rfl⟩, ?_⟩
  rintro m σ H1 ⟨f1, r1, y4, y5, y6, rfl, sm, hf, hrr, L, cl, rfl⟩
  refine ⟨.ref ro, rfl, Nat.zero_le _, fun E1 nE1 => ?_⟩
  have nEf : fo ≠ E1 := ne_of_none hf nE1
  have nEr : ro ≠ E1 := ne_of_none hrr nE1
  have sm2 := sm.new (o := .lst []) nE1
  refine ⟨_, .list [], dp_lst (lq (up hrr nE1)), .lst (lq upd_same) .nil, int_shaped r1, nil_shaped, _, rfl, ?_⟩
  rw [eqv_nil]
  by_cases hr0 : r1 = []
  · subst hr0
    refine iteF ?_
    have len : f1.length < 64 := by
      have := L.len
      have := gw.n7
      omega
    refine ⟨.ref fo, rfl, fo, f1, rfl, lq (up hf nE1), len, fun L1 p hp hs np => ?_⟩
    have hp0 : H p = none := by
      cases e : H p with
      | none => rfl
      | some o => rw [sm2 _ _ e] at np; cases np
    refine q _ p L1 (sm2.new np) hp0 upd_same ⟨perm_asc hp hs L.nd, fun k hk => L.rng k (hp.mem_iff.mp hk)⟩ fun x => ?_
    rw [hp.mem_iff]
    exact L.fin cl x
  · rw [decide_eq_false hr0]
    refine iteT ⟨fun σ' H' => ∃ m', m' < 2 * (n.toNat - f1.length) + r1.length ∧ _, fun σ' H' h => h, ?_⟩
    have hpos : 0 < r1.length := List.length_pos_iff.mpr hr0
    obtain ⟨z, hz⟩ : ∃ z, r1[r1.length - 1]? = some z := ⟨_, List.getElem?_eq_getElem (by omega)⟩
    refine ⟨.ref ro, rfl, .inl ⟨rfl, _, lq (up hrr nE1)⟩, ro, r1.map V.int, .int z, rfl, rfl, up hrr nE1, ?_, ?_⟩
    · rw [List.length_map, List.getElem?_map, hz] <;> rfl
    have zr : z ∈ r1 := List.mem_of_getElem? hz
    have sm3 : Same H (upd (upd H1 E1 (.lst [])) ro (.lst (r1.map V.int).dropLast)) := sm2.put hro0
    refine ⟨.ref wa, rfl, wa, _, 1, .ref t, rfl, rfl, tq (sm3 _ _ h1), atI_nat (j := 1) rfl, t, rfl, ⟨_, tq (sm3 _ _ h2)⟩, ?_⟩
    refine for_tup (K := K) (a := t) (xs := as.map V.ref) (fun i σ H' => ∃ (f r : S) (y5 y6 : Option V), σ = [some (.ref wa), some (.ref b), some (.ref fo), some (.ref ro), some (.int z), y5, y6] ∧ Same H H' ∧ H' fo = some (.lst (f.map V.int)) ∧ H' ro = some (.lst (r.map V.int)) ∧ LF n ar s0 f r ∧
      (∀ x ∈ f, x ∉ r → x ≠ z → ∀ y, (x, y) ∈ ar → y ∈ f) ∧ z ∈ f ∧ (∀ j e, j < i → ar[j]? = some e → e.1 = z → e.2 ∈ f) ∧ 2 * (n.toNat - f.length) + r.length < 2 * (n.toNat - f1.length) + r1.length)
      ⟨f1, r1.dropLast, y5, y6, rfl, sm3, by rw [upd_ne nfr]; exact up hf nE1, by rw [upd_same, List.map_dropLast], L.pop, fun x hx hn ne => cl x hx fun h => ((mem_split_last hz x).mp h).elim hn ne, L.rows z zr, fun j e hj => absurd hj (Nat.not_lt_zero _), by rw [List.length_dropLast]; omega⟩
      (fun i σ H' _ ⟨_, _, _, _, _, s4, _⟩ => tq (s4 _ _ h2)) (fun i v σ H2 hv hP => ?_) (fun σ H2 hP => ?_)
    · obtain ⟨f2, r2, y5, y6, rfl, s4, hf2, hr2, L2, cl2, zf, pre, mu⟩ := hP
      obtain ⟨c, x, y, rfl, hc1, hc2, hc3⟩ := h3.get hv
      have eA : (x, y) ∈ ar := List.mem_of_getElem? hc2
      refine ⟨c, _, rfl, tq (s4 _ _ hc3), rfl, .int x, [.int y], rfl, .int y, [], rfl, rfl, ?_⟩
      refine ⟨.int x, rfl, .int z, rfl, rfl, _, rfl, ite2 (fun e => ?_) (fun e => ?_)⟩
      · have exz : x = z := V.int.inj (of_decide_eq_true e)
        subst exz
        refine ⟨.int y, rfl, .ref fo, rfl, fo, _, rfl, .inl (lq hf2), rfl, flat_ints f2, _, rfl, ?_⟩
        rw [if_pos rfl, inV_ints]
        by_cases hy : y ∈ f2
        · rw [decide_eq_true hy]
          refine iteF ⟨f2, r2, _, _, rfl, s4, hf2, hr2, L2, cl2, zf, fun j e' hj he ee => ?_, mu⟩
          by_cases hji : j = i
          · subst hji
            rw [hc2] at he
            cases he
            exact hy
          · exact pre j e' (by omega) he ee
        · rw [decide_eq_false hy]
          have l1 := L2.len
          have L3 := L2.push gw zf eA hy
          have l3 := L3.len
          rw [List.length_append, List.length_singleton] at l3
          have n7 := gw.n7
          have r2l : r2.length ≤ 1000 := by
            have := L2.rlen
            omega
          refine iteT ⟨.ref fo, rfl, .inl ⟨rfl, _, lq hf2⟩, .int y, rfl, fo, _, _, rfl, rfl, hf2, by rw [List.length_map]; exact small1000 (by omega), ?_⟩
          refine ⟨.ref ro, rfl, .inl ⟨rfl, _, lq (by rw [upd_ne nfr.symm]; exact hr2)⟩, .int y, rfl, ro, _, _, rfl, rfl, by rw [upd_ne nfr.symm]; exact hr2, by rw [List.length_map]; exact small1000 r2l, ?_⟩
          refine ⟨f2 ++ [y], r2 ++ [y], _, _, rfl, (s4.put nfo).put hro0, by rw [upd_ne nfr, upd_same, map_snoc], by rw [upd_same, map_snoc], L3, fun u hu hn ne v hv => ?_, List.mem_append_left _ zf, fun j e' hj he ee => ?_, by rw [List.length_append, List.length_append, List.length_singleton]; omega⟩
          · rcases List.mem_append.mp hu with h | h
            · exact List.mem_append_left _ (cl2 u h (fun q => hn (List.mem_append_left _ q)) ne v hv)
            · exact absurd (List.mem_append_right _ h) hn
          · by_cases hji : j = i
            · subst hji
              rw [hc2] at he
              cases he
              exact List.mem_append_right _ (by simp)
            · exact List.mem_append_left _ (pre j e' (by omega) he ee)
      · refine (iteF ⟨f2, r2, _, _, rfl, s4, hf2, hr2, L2, cl2, zf, fun j e' hj he ee => ?_, mu⟩)
        by_cases hji : j = i
        · subst hji
          rw [hc2] at he
          cases he
          exact absurd (decide_eq_true (congrArg V.int (show x = z from ee))) e
        · exact pre j e' (by omega) he ee
    · obtain ⟨f2, r2, y5, y6, rfl, s4, hf2, hr2, L2, cl2, zf, pre, mu⟩ := hP
      refine ⟨_, mu, f2, r2, _, _, _, rfl, s4, hf2, hr2, L2, fun x hx hn y hy => ?_, rfl⟩
      by_cases ex : x = z
      · subst ex
        obtain ⟨j, hj, e⟩ := List.mem_iff_getElem.mp hy
        exact pre j (x, y) (by rw [List.length_map, h3.1]; exact hj) (by rw [List.getElem?_eq_getElem hj, e]) rfl
      · exact cl2 x hx hn ex y hy
end
end PLW

/-! PLWc -/
set_option Elab.async false
set_option linter.all false
set_option maxRecDepth 100000
set_option maxHeartbeats 4000000
namespace PLW
open PySem PySem.Spec PyProof.Rows L2 PLM PLR
section
variable {P : Program} {w : World} {K : PySem.W.Frag} {mg : Str → Option Value} {base : Heap}
/-! ### turned_in -/
def sp_turned_in : Sp := fun vs H Q _ => ∃ (wa : Addr) (n : Int) (ar : Ar), vs = [.ref wa] ∧ WebAt H wa n ar ∧ ∀ H' p ar', Same H H' → WebAt H' p n ar' → Turn ar ar' → Q (.ref p) H'
abbrev N_turned_in : List PySem.Str := ["web", "one", "other"]
theorem sc_turned_in : FnScope N_turned_in ["web"] (defScope s_turned_in) := ⟨rfl, rfl, rfl, by decide +kernel, rfl, by decide +kernel, by decide +kernel⟩
-- deps: ; slots: 0:web 1:one 2:other
theorem ok_turned_in (F : Src K mg "turned_in" s_turned_in) (T : Txt mg)  : Def P w K mg base 1 "turned_in" ["web"] sp_turned_in := by
  refine mkDef F sc_turned_in (fun _ _ _ _ _ _ us hl => match us, hl with | [_], _ => rfl) (fun vs H Q E h => ?_) (fun f cdv A outer s H vs Q E hr h => ?_)
  · first | (obtain ⟨_, rfl, _⟩ := h; rfl) | (obtain ⟨_, _, rfl, _⟩ := h; rfl) | (obtain ⟨_, _, _, rfl, _⟩ := h; rfl) | (obtain ⟨_, _, _, _, rfl, _⟩ := h; rfl) | (obtain ⟨_, _, _, _, _, rfl, _⟩ := h; rfl) | (obtain ⟨_, _, _, _, _, _, rfl, _⟩ := h; rfl) | (obtain ⟨_, _, _, _, _, _, _, rfl, _⟩ := h; rfl) | (obtain ⟨_, _, _, _, _, _, _, _, rfl, _⟩ := h; rfl) | (obtain ⟨_, _, _, _, _, _, _, _, _, rfl, _⟩ := h; rfl) | (obtain ⟨_, _, _, _, _, _, _, _, _, _, rfl, _⟩ := h; rfl) | (obtain ⟨_, _, _, _, _, _, _, _, _, _, _, rfl, _⟩ := h; rfl)
  obtain ⟨wa, n, ar, rfl, W, q⟩ := h
  obtain ⟨t, as, h1, h2, h3⟩ := W.ex
  have gw := W.gw
  have nd := sc_turned_in.nd
  refine ⟨_, (pss_one (ps_ret (pe_tup (pa_cons (pe_ix ix_tupK (pv 0) pe_int (fun _ _ => rfl)) (pa_cons (pe_callTy tupleK (by rfl) T.b_tuple (by decide +kernel) (pa_cons (pe_callB (sortedUK (d := 2) (B := 64) (by decide)) (by rfl) T.b_sorted (by decide +kernel) (pa_cons (pe_lc (own := [("one", 1), ("other", 2)]) (g := (gTup K 2 (gCons (gName 1) (gCons (gName 2) gNil)))) (by rfl) nd (pi_tupK (pe_ix ix_tupK (pv 0) pe_int (fun _ _ => rfl))) (blkK (own := [("one", 1), ("other", 2)]) (N := N_turned_in) (sc := defScope s_turned_in) (by decide +kernel)) (fun _ _ _ _ _ => (pg_tup rfl (pgs_cons (pg_name (i := 1) nd rfl (Or.inl rfl)) (pgs_cons (pg_name (i := 2) nd rfl (Or.inl rfl)) pgs_nil)))) (fun _ _ _ _ _ => pts_nil) (fun _ _ _ _ _ => (pe_tup (pa_cons (pv 2) (pa_cons (pv 1) pa_nil))))) pa_nil)) pa_nil)) pa_nil))))), ?_⟩
  refine ⟨.ref wa, rfl, wa, _, 0, .int n, rfl, rfl, tq h1, atI_nat (j := 0) rfl, ?_⟩
  refine ⟨.ref wa, rfl, wa, _, 1, .ref t, rfl, rfl, tq h1, atI_nat (j := 1) rfl, t, rfl, ⟨_, tq h2⟩, fun D hD => ?_⟩
  have S0 := (Same.refl H).new (o := .lst []) hD
  refine lc_tup (K := K) (a := t) (xs := as.map V.ref) (fun i H' => ∃ zs : List (Addr × Int × Int), Same H H' ∧ H' D = some (.lst (zs.map fun z => V.ref z.1)) ∧ Prz H' zs ∧ zs.map (·.2) = (ar.take i).map fun e => (e.2, e.1))
    ⟨[], S0, upd_same, fun z hz => (by cases hz), rfl⟩ (fun i H' _ ⟨_, sm, _⟩ => tq (sm _ _ h2)) (fun i v H1 hv hP => ?_) (fun H1 hP => ?_)
  · obtain ⟨zs, sm, hL, hz, he⟩ := hP
    obtain ⟨c, x, y, rfl, hc1, hc2, hc3⟩ := h3.get hv
    refine ⟨c, _, rfl, tq (sm _ _ hc3), rfl, .int x, [.int y], rfl, .int y, [], rfl, rfl, rfl, ?_⟩
    refine ⟨.int y, rfl, .int x, rfl, by show 2 ≤ sizeLine; decide, fun p np => ?_⟩
    have lz : zs.length ≤ 49 := by
      have e1 := congrArg List.length he
      have := gw.len
      simp only [List.length_map, List.length_take] at e1
      omega
    refine ⟨_, up hL np, by rw [List.length_map]; exact small1000 (by omega), zs ++ [(p, y, x)], (sm.new np).put hD, by rw [upd_same]; simp, ?_, ?_⟩
    · have nDp : p ≠ D := fun e => by rw [e, hL] at np; cases np
      refine Prz.snoc (fun z hzm => ?_) ?_
      · have q1 := hz z hzm
        rw [upd_ne (fun e => by rw [e, hL] at q1; cases q1), upd_ne (ne_of_none q1 np)]
        exact q1
      · rw [upd_ne nDp, upd_same]
    · rw [List.map_append, he, take_snoc hc2, List.map_append] <;> rfl
  · obtain ⟨zs, sm, hL, hz, he⟩ := hP
    have he : zs.map (·.2) = ar.map fun e => (e.2, e.1) := by
      rw [he, List.length_map, h3.1, List.take_length]
    have lz : zs.length ≤ 49 := by
      have e1 := congrArg List.length he
      have := gw.len
      simp only [List.length_map] at e1
      omega
    have rng : ∀ z ∈ zs, (0 ≤ z.2.1 ∧ z.2.1 < n) ∧ 0 ≤ z.2.2 ∧ z.2.2 < n := fun z hzm => by
      have m : z.2 ∈ ar.map fun e => (e.2, e.1) := he ▸ List.mem_map.mpr ⟨z, hzm, rfl⟩
      obtain ⟨e, me, ee⟩ := List.mem_map.mp m
      have r := gw.rng e me
      rw [← ee]
      exact ⟨r.2.1, r.1⟩
    have n7 := gw.n7
    refine ⟨D, _, rfl, lq hL, by rw [List.length_map]; omega, fun v hv => ?_, fun ys p hp hs np => ?_⟩
    · obtain ⟨z, hzm, rfl⟩ := List.mem_map.mp hv
      refine ⟨[z.2.1, z.2.2], ⟨z.1, rfl, tq (hz z hzm)⟩, rfl, fun m hm => ?_⟩
      have r := rng z hzm
      rcases List.mem_cons.mp hm with e | e
      · exact e ▸ ⟨r.1.1, by omega⟩
      · exact (List.mem_singleton.mp e) ▸ ⟨r.2.1, by omega⟩
    · obtain ⟨zs', pz, rfl⟩ := perm_of_map hp rfl
      have hz' : Prz H1 zs' := fun z hzm => hz z (pz.mem_iff.mp hzm)
      have perm2 : (zs'.map (·.2)).Perm (ar.map fun e => (e.2, e.1)) := he ▸ pz.map _
      have nd0 : ar.Nodup := List.Pairwise.imp (fun {a b} (h : ltA a b) e => by subst e; rcases h with h | h <;> omega) gw.asc
      have nd1 : (ar.map fun e : Int × Int => (e.2, e.1)).Nodup := by
        rw [List.Nodup, List.pairwise_map]
        refine List.Pairwise.imp (fun {a b} h e => h ?_) nd0
        have e1 : a.2 = b.2 ∧ a.1 = b.1 := by simpa using e
        exact Prod.ext e1.2 e1.1
      have asc' : (zs'.map (·.2)).Pairwise ltA := by
        refine przSorted (K := K) n7 hz' (fun z hzm => rng z (pz.mem_iff.mp hzm)) (perm2.nodup_iff.mpr nd1) ?_
        refine List.Pairwise.imp_of_mem (fun {a b} ha hb h => ?_) (List.pairwise_map.mp hs)
        exact h [a.2.1, a.2.2] [b.2.1, b.2.2] ⟨a.1, rfl, tq (hz' a ha)⟩ ⟨b.1, rfl, tq (hz' b hb)⟩
      obtain ⟨gw', tn⟩ := gw.turn perm2 asc'
      refine ⟨p, _, rfl, .inl ⟨lq upd_same, fun l nl => ⟨by show 2 ≤ sizeLine; decide, fun r nr => ?_⟩⟩⟩
      have sm3 := ((sm.new (o := .lst (zs'.map fun z => V.ref z.1)) np).new (o := .tup (zs'.map fun z => V.ref z.1)) nl).new (o := .tup [.int n, .ref l]) nr
      have smz := (((Same.refl H1).new (o := .lst (zs'.map fun z => V.ref z.1)) np).new (o := .tup (zs'.map fun z => V.ref z.1)) nl).new (o := .tup [.int n, .ref l]) nr
      refine q _ r _ sm3 ⟨⟨l, zs'.map (·.1), upd_same, up (by rw [upd_same, List.map_map]; rfl) nr, (hz'.to smz).prs⟩, gw'⟩ tn

/-! ### light_in -/
def sp_light_in : Sp := fun vs H Q _ => ∃ (wa b : Addr) (n : Int) (ar : Ar) (s : S), vs = [.ref wa, .ref b] ∧ WebAt H wa n ar ∧ Tp H b s ∧ Good n s ∧
  ∀ H' p (L : S), Same H H' → H p = none → H' p = some (.lst (L.map V.int)) → L.Pairwise (· < ·) → (∀ k, k ∈ L ↔ k ∉ s ∧ canB ar s k = true) → L.length ≤ 49 → Q (.ref p) H'
abbrev N_light_in : List PySem.Str := ["web", "burning", "one", "other"]
theorem sc_light_in : FnScope N_light_in ["web", "burning"] (defScope s_light_in) := ⟨rfl, rfl, rfl, by decide +kernel, rfl, by decide +kernel, by decide +kernel⟩
-- deps: ; slots: 0:web 1:burning(cell) 2:one 3:other
theorem ok_light_in (F : Src K mg "light_in" s_light_in) (T : Txt mg)  : Def P w K mg base 1 "light_in" ["web", "burning"] sp_light_in := by
  refine mkDef F sc_light_in (fun _ _ _ _ _ _ us hl => match us, hl with | [_, _], _ => rfl) (fun vs H Q E h => ?_) (fun f cdv A outer s H vs Q E hr h => ?_)
  · first | (obtain ⟨_, rfl, _⟩ := h; rfl) | (obtain ⟨_, _, rfl, _⟩ := h; rfl) | (obtain ⟨_, _, _, rfl, _⟩ := h; rfl) | (obtain ⟨_, _, _, _, rfl, _⟩ := h; rfl) | (obtain ⟨_, _, _, _, _, rfl, _⟩ := h; rfl) | (obtain ⟨_, _, _, _, _, _, rfl, _⟩ := h; rfl) | (obtain ⟨_, _, _, _, _, _, _, rfl, _⟩ := h; rfl) | (obtain ⟨_, _, _, _, _, _, _, _, rfl, _⟩ := h; rfl) | (obtain ⟨_, _, _, _, _, _, _, _, _, rfl, _⟩ := h; rfl) | (obtain ⟨_, _, _, _, _, _, _, _, _, _, rfl, _⟩ := h; rfl) | (obtain ⟨_, _, _, _, _, _, _, _, _, _, _, rfl, _⟩ := h; rfl)
  obtain ⟨wa, b, n, ar, s0, rfl, W, hb, g, q⟩ := h
  obtain ⟨t, as, h1, h2, h3⟩ := W.ex
  have gw := W.gw
  have nd := sc_light_in.nd
  refine ⟨_, (pss_one (ps_ret (pe_callB (sortedSK rfl) (by rfl) T.b_sorted (by decide +kernel) (pa_cons (pe_callTy (setIK rfl) (by rfl) T.b_set (by decide +kernel) (pa_cons (pe_lc (own := [("one", 2), ("other", 3)]) (g := (gTup K 2 (gCons (gName 2) (gCons (gName 3) gNil)))) (by rfl) nd (pi_tupK (pe_ix ix_tupK (pv 0) pe_int (fun _ _ => rfl))) (blkK (own := [("one", 2), ("other", 3)]) (N := N_light_in) (sc := defScope s_light_in) (by decide +kernel)) (fun _ _ _ _ _ => (pg_tup rfl (pgs_cons (pg_name (i := 2) nd rfl (Or.inl rfl)) (pgs_cons (pg_name (i := 3) nd rfl (Or.inl rfl)) pgs_nil)))) (fun _ _ _ _ _ => pts_one (PW.pt (pw_and (pt_cmpR op_inK (pv 2) (pv 1) (by rfl)) (pw_and1 (pt_cmpR op_notInK (pv 3) (pv 1) (by rfl)))))) (fun _ _ _ _ _ => (pv 3))) pa_nil)) pa_nil)))), ?_⟩
  refine ⟨.ref wa, rfl, wa, _, 1, .ref t, rfl, rfl, tq h1, atI_nat (j := 1) rfl, t, rfl, ⟨_, tq h2⟩, fun D hD => ?_⟩
  have S0 := (Same.refl H).new (o := .lst []) hD
  refine lc_tup (K := K) (a := t) (xs := as.map V.ref) (fun i H' => H' = upd H D (.lst ((((ar.take i).filter (fun e : Int × Int => decide (e.1 ∈ s0) && !decide (e.2 ∈ s0))).map fun e => e.2).map V.int)))
    rfl (fun i H' _ e => by subst e; exact tq (((Same.refl H).new hD) _ _ h2)) (fun i v H1 hv hP => ?_) (fun H1 hP => ?_)
  · subst hP
    obtain ⟨c, x, y, rfl, hc1, hc2, hc3⟩ := h3.get hv
    have sm := (Same.refl H).new (o := .lst ((((ar.take i).filter (fun e : Int × Int => decide (e.1 ∈ s0) && !decide (e.2 ∈ s0))).map fun e => e.2).map V.int)) hD
    refine ⟨c, _, rfl, tq (sm _ _ hc3), rfl, .int x, [.int y], rfl, .int y, [], rfl, rfl, rfl, ?_⟩
    refine ⟨.int x, rfl, .ref b, rfl, b, _, rfl, .inr (hb.to sm).sq, rfl, flat_ints s0, _, rfl, ?_⟩
    rw [if_neg Bool.false_ne_true, inV_ints]
    have len : (((ar.take i).filter (fun e : Int × Int => decide (e.1 ∈ s0) && !decide (e.2 ∈ s0))).map fun e => e.2).length ≤ 49 := by
      have := gw.len
      have q1 := List.length_filter_le (fun e : Int × Int => decide (e.1 ∈ s0) && !decide (e.2 ∈ s0)) (ar.take i)
      rw [List.length_take] at q1
      rw [List.length_map]
      omega
    have fl := filter_snoc (p := fun e : Int × Int => decide (e.1 ∈ s0) && !decide (e.2 ∈ s0)) hc2
    by_cases hx : x ∈ s0
    · rw [decide_eq_true hx]
      refine iteT ⟨.int y, rfl, .ref b, rfl, b, _, rfl, .inr (hb.to sm).sq, rfl, flat_ints s0, _, rfl, ?_⟩
      rw [if_pos rfl, inV_ints]
      by_cases hy : y ∈ s0
      · rw [decide_eq_true hy]
        refine iteF ?_
        show upd H D _ = upd H D _
        rw [fl]
        simp [hx, hy]
      · rw [decide_eq_false hy]
        refine iteT ⟨_, rfl, _, upd_same, by rw [List.length_map]; exact small1000 (by omega), ?_⟩
        show upd (upd H D _) D _ = upd H D _
        rw [fl]
        rw [upd_upd]; simp [hx, hy]
    · rw [decide_eq_false hx]
      refine iteF (iteF ?_)
      show upd H D _ = upd H D _
      rw [fl]
      simp [hx]
  · subst hP
    rw [List.length_map, h3.1, List.take_length]
    have len : ((ar.filter (fun e : Int × Int => decide (e.1 ∈ s0) && !decide (e.2 ∈ s0))).map fun e => e.2).length ≤ 49 := by
      have := gw.len
      have q1 := List.length_filter_le (fun e : Int × Int => decide (e.1 ∈ s0) && !decide (e.2 ∈ s0)) ar
      rw [List.length_map]
      omega
    refine ⟨D, _, rfl, lq upd_same, by omega, fun st c hc nst => ?_⟩
    refine ⟨st, _, _, rfl, upd_same, by omega, fun L p hs hm hl np => ?_⟩
    have sm := (((Same.refl H).new (o := .lst (((ar.filter (fun e : Int × Int => decide (e.1 ∈ s0) && !decide (e.2 ∈ s0))).map fun e => e.2).map V.int)) hD).new (o := SetO w st (fun j => decide (j ∈ (ar.filter (fun e : Int × Int => decide (e.1 ∈ s0) && !decide (e.2 ∈ s0))).map fun e => e.2)) c) nst)
    have hp0 : H p = none := sm.free np
    refine q _ p L (sm.new np) hp0 upd_same hs (fun k => ?_) (by omega)
    rw [hm, decide_eq_true_eq, List.mem_map]
    constructor
    · rintro ⟨⟨x, y⟩, he, rfl⟩
      obtain ⟨h4, h5⟩ := List.mem_filter.mp he
      have h6 : x ∈ s0 ∧ y ∉ s0 := by simpa using h5
      exact ⟨h6.2, (can_out h6.2).mpr ⟨x, h4, h6.1⟩⟩
    · rintro ⟨hk, hc⟩
      obtain ⟨a, ha, hs⟩ := (can_out hk).mp hc
      exact ⟨(a, k), List.mem_filter.mpr ⟨ha, by simp [hs, hk]⟩, rfl⟩

/-! ### quench_in -/
def sp_quench_in : Sp := fun vs H Q _ => ∃ (wa b : Addr) (n : Int) (ar : Ar) (s : S), vs = [.ref wa, .ref b] ∧ WebAt H wa n ar ∧ Tp H b s ∧ Good n s ∧
  ∀ H' p (L : S), Same H H' → H p = none → H' p = some (.lst (L.map V.int)) → L.Pairwise (· < ·) → (∀ k, k ∈ L ↔ k ∈ s ∧ canB ar s k = true) → L.length ≤ 49 → Q (.ref p) H'
abbrev N_quench_in : List PySem.Str := ["web", "burning", "one", "other"]
theorem sc_quench_in : FnScope N_quench_in ["web", "burning"] (defScope s_quench_in) := ⟨rfl, rfl, rfl, by decide +kernel, rfl, by decide +kernel, by decide +kernel⟩
-- deps: ; slots: 0:web 1:burning(cell) 2:one 3:other
theorem ok_quench_in (F : Src K mg "quench_in" s_quench_in) (T : Txt mg)  : Def P w K mg base 1 "quench_in" ["web", "burning"] sp_quench_in := by
  refine mkDef F sc_quench_in (fun _ _ _ _ _ _ us hl => match us, hl with | [_, _], _ => rfl) (fun vs H Q E h => ?_) (fun f cdv A outer s H vs Q E hr h => ?_)
  · first | (obtain ⟨_, rfl, _⟩ := h; rfl) | (obtain ⟨_, _, rfl, _⟩ := h; rfl) | (obtain ⟨_, _, _, rfl, _⟩ := h; rfl) | (obtain ⟨_, _, _, _, rfl, _⟩ := h; rfl) | (obtain ⟨_, _, _, _, _, rfl, _⟩ := h; rfl) | (obtain ⟨_, _, _, _, _, _, rfl, _⟩ := h; rfl) | (obtain ⟨_, _, _, _, _, _, _, rfl, _⟩ := h; rfl) | (obtain ⟨_, _, _, _, _, _, _, _, rfl, _⟩ := h; rfl) | (obtain ⟨_, _, _, _, _, _, _, _, _, rfl, _⟩ := h; rfl) | (obtain ⟨_, _, _, _, _, _, _, _, _, _, rfl, _⟩ := h; rfl) | (obtain ⟨_, _, _, _, _, _, _, _, _, _, _, rfl, _⟩ := h; rfl)
  obtain ⟨wa, b, n, ar, s0, rfl, W, hb, g, q⟩ := h
  obtain ⟨t, as, h1, h2, h3⟩ := W.ex
  have gw := W.gw
  have nd := sc_quench_in.nd
  refine ⟨_, (pss_one (ps_ret (pe_callB (sortedSK rfl) (by rfl) T.b_sorted (by decide +kernel) (pa_cons (pe_callTy (setIK rfl) (by rfl) T.b_set (by decide +kernel) (pa_cons (pe_lc (own := [("one", 2), ("other", 3)]) (g := (gTup K 2 (gCons (gName 2) (gCons (gName 3) gNil)))) (by rfl) nd (pi_tupK (pe_ix ix_tupK (pv 0) pe_int (fun _ _ => rfl))) (blkK (own := [("one", 2), ("other", 3)]) (N := N_quench_in) (sc := defScope s_quench_in) (by decide +kernel)) (fun _ _ _ _ _ => (pg_tup rfl (pgs_cons (pg_name (i := 2) nd rfl (Or.inl rfl)) (pgs_cons (pg_name (i := 3) nd rfl (Or.inl rfl)) pgs_nil)))) (fun _ _ _ _ _ => pts_one (PW.pt (pw_and (pt_cmpR op_inK (pv 2) (pv 1) (by rfl)) (pw_and1 (pt_cmpR op_inK (pv 3) (pv 1) (by rfl)))))) (fun _ _ _ _ _ => (pv 2))) pa_nil)) pa_nil)))), ?_⟩
  refine ⟨.ref wa, rfl, wa, _, 1, .ref t, rfl, rfl, tq h1, atI_nat (j := 1) rfl, t, rfl, ⟨_, tq h2⟩, fun D hD => ?_⟩
  have S0 := (Same.refl H).new (o := .lst []) hD
  refine lc_tup (K := K) (a := t) (xs := as.map V.ref) (fun i H' => H' = upd H D (.lst ((((ar.take i).filter (fun e : Int × Int => decide (e.1 ∈ s0) && decide (e.2 ∈ s0))).map fun e => e.1).map V.int)))
    rfl (fun i H' _ e => by subst e; exact tq (((Same.refl H).new hD) _ _ h2)) (fun i v H1 hv hP => ?_) (fun H1 hP => ?_)
  · subst hP
    obtain ⟨c, x, y, rfl, hc1, hc2, hc3⟩ := h3.get hv
    have sm := (Same.refl H).new (o := .lst ((((ar.take i).filter (fun e : Int × Int => decide (e.1 ∈ s0) && decide (e.2 ∈ s0))).map fun e => e.1).map V.int)) hD
    refine ⟨c, _, rfl, tq (sm _ _ hc3), rfl, .int x, [.int y], rfl, .int y, [], rfl, rfl, rfl, ?_⟩
    refine ⟨.int x, rfl, .ref b, rfl, b, _, rfl, .inr (hb.to sm).sq, rfl, flat_ints s0, _, rfl, ?_⟩
    rw [if_neg Bool.false_ne_true, inV_ints]
    have len : (((ar.take i).filter (fun e : Int × Int => decide (e.1 ∈ s0) && decide (e.2 ∈ s0))).map fun e => e.1).length ≤ 49 := by
      have := gw.len
      have q1 := List.length_filter_le (fun e : Int × Int => decide (e.1 ∈ s0) && decide (e.2 ∈ s0)) (ar.take i)
      rw [List.length_take] at q1
      rw [List.length_map]
      omega
    have fl := filter_snoc (p := fun e : Int × Int => decide (e.1 ∈ s0) && decide (e.2 ∈ s0)) hc2
    by_cases hx : x ∈ s0
    · rw [decide_eq_true hx]
      refine iteT ⟨.int y, rfl, .ref b, rfl, b, _, rfl, .inr (hb.to sm).sq, rfl, flat_ints s0, _, rfl, ?_⟩
      rw [if_neg Bool.false_ne_true, inV_ints]
      by_cases hy : y ∈ s0
      · rw [decide_eq_true hy]
        refine iteT ⟨_, rfl, _, upd_same, by rw [List.length_map]; exact small1000 (by omega), ?_⟩
        show upd (upd H D _) D _ = upd H D _
        rw [fl]
        rw [upd_upd]; simp [hx, hy]
      · rw [decide_eq_false hy]
        refine iteF ?_
        show upd H D _ = upd H D _
        rw [fl]
        simp [hx, hy]
    · rw [decide_eq_false hx]
      refine iteF (iteF ?_)
      show upd H D _ = upd H D _
      rw [fl]
      simp [hx]
  · subst hP
    rw [List.length_map, h3.1, List.take_length]
    have len : ((ar.filter (fun e : Int × Int => decide (e.1 ∈ s0) && decide (e.2 ∈ s0))).map fun e => e.1).length ≤ 49 := by
      have := gw.len
      have q1 := List.length_filter_le (fun e : Int × Int => decide (e.1 ∈ s0) && decide (e.2 ∈ s0)) ar
      rw [List.length_map]
      omega
    refine ⟨D, _, rfl, lq upd_same, by omega, fun st c hc nst => ?_⟩
    refine ⟨st, _, _, rfl, upd_same, by omega, fun L p hs hm hl np => ?_⟩
    have sm := (((Same.refl H).new (o := .lst (((ar.filter (fun e : Int × Int => decide (e.1 ∈ s0) && decide (e.2 ∈ s0))).map fun e => e.1).map V.int)) hD).new (o := SetO w st (fun j => decide (j ∈ (ar.filter (fun e : Int × Int => decide (e.1 ∈ s0) && decide (e.2 ∈ s0))).map fun e => e.1)) c) nst)
    have hp0 : H p = none := sm.free np
    refine q _ p L (sm.new np) hp0 upd_same hs (fun k => ?_) (by omega)
    rw [hm, decide_eq_true_eq, List.mem_map]
    constructor
    · rintro ⟨⟨x, y⟩, he, rfl⟩
      obtain ⟨h4, h5⟩ := List.mem_filter.mp he
      have h6 : x ∈ s0 ∧ y ∈ s0 := by simpa using h5
      exact ⟨h6.1, (can_in h6.1).mpr ⟨y, h4, h6.2⟩⟩
    · rintro ⟨hk, hc⟩
      obtain ⟨a, ha, hs⟩ := (can_in hk).mp hc
      exact ⟨(k, a), List.mem_filter.mpr ⟨ha, by simp [hs, hk]⟩, rfl⟩

/-! ### changed -/
def sp_changed : Sp := fun vs H Q _ => ∃ (b : Addr) (n k : Int) (s : S), vs = [.ref b, .int k] ∧ Tp H b s ∧ Good n s ∧ n ≤ 7 ∧ ∀ H' p, Same H H' → Tp H' p (tog s k) → Q (.ref p) H'
abbrev N_changed : List PySem.Str := ["burning", "lamp", "k"]
theorem sc_changed : FnScope N_changed ["burning", "lamp"] (defScope s_changed) := ⟨rfl, rfl, rfl, by decide +kernel, rfl, by decide +kernel, by decide +kernel⟩
-- deps: ; slots: 0:burning 1:lamp(cell) 2:k
theorem ok_changed (F : Src K mg "changed" s_changed) (T : Txt mg)  : Def P w K mg base 1 "changed" ["burning", "lamp"] sp_changed := by
  refine mkDef F sc_changed (fun _ _ _ _ _ _ us hl => match us, hl with | [_, _], _ => rfl) (fun vs H Q E h => ?_) (fun f cdv A outer s H vs Q E hr h => ?_)
  · first | (obtain ⟨_, rfl, _⟩ := h; rfl) | (obtain ⟨_, _, rfl, _⟩ := h; rfl) | (obtain ⟨_, _, _, rfl, _⟩ := h; rfl) | (obtain ⟨_, _, _, _, rfl, _⟩ := h; rfl) | (obtain ⟨_, _, _, _, _, rfl, _⟩ := h; rfl) | (obtain ⟨_, _, _, _, _, _, rfl, _⟩ := h; rfl) | (obtain ⟨_, _, _, _, _, _, _, rfl, _⟩ := h; rfl) | (obtain ⟨_, _, _, _, _, _, _, _, rfl, _⟩ := h; rfl) | (obtain ⟨_, _, _, _, _, _, _, _, _, rfl, _⟩ := h; rfl) | (obtain ⟨_, _, _, _, _, _, _, _, _, _, rfl, _⟩ := h; rfl) | (obtain ⟨_, _, _, _, _, _, _, _, _, _, _, rfl, _⟩ := h; rfl)
  obtain ⟨b, n, k, s0, rfl, hb, g, n7, q⟩ := h
  have len := good_len g
  have nd := sc_changed.nd
  refine ⟨_, (pss_cons (ps_if (pt_cmpR op_inK (pv 1) (pv 0) (by rfl)) (pss_one (ps_ret (pe_callTy tupleK (by rfl) T.b_tuple (by decide +kernel) (pa_cons (pe_lc (own := [("k", 2)]) (g := (gName 2)) (by rfl) nd (pi_tupK (pv 0)) (blkK (own := [("k", 2)]) (N := N_changed) (sc := defScope s_changed) (by decide +kernel)) (fun _ _ _ _ _ => (pg_name (i := 2) nd rfl (Or.inl rfl))) (fun _ _ _ _ _ => pts_one (pt_cmpR op_ne (pv 2) (pv 1) (nomark _))) (fun _ _ _ _ _ => (pv 2))) pa_nil)))) pss_nil)
      (pss_one (ps_ret (pe_callTy tupleK (by rfl) T.b_tuple (by decide +kernel) (pa_cons (pe_callB sortedTupK (by rfl) T.b_sorted (by decide +kernel) (pa_cons (pe_op op_catAK (pv 0) (pe_tup (pa_cons (pv 1) pa_nil))) pa_nil)) pa_nil))))), ?_⟩
  refine ⟨.int k, rfl, .ref b, rfl, b, _, rfl, .inr hb.sq, rfl, flat_ints s0, _, rfl, ?_⟩
  rw [if_neg Bool.false_ne_true, inV_ints]
  by_cases hk : k ∈ s0
  · rw [decide_eq_true hk]
    refine iteT ⟨.ref b, rfl, b, rfl, ⟨_, hb.sq⟩, fun D hD => ?_⟩
    refine lc_tup (K := K) (a := b) (xs := s0.map V.int) (fun i H' => H' = upd H D (.lst (((s0.take i).filter fun j => decide (j ≠ k)).map V.int))) rfl
      (fun i H' _ e => by subst e; exact (hb.to ((Same.refl H).new hD)).sq) (fun i v H1 hv hP => ?_) (fun H1 hP => ?_)
    · subst hP
      obtain ⟨j, rfl, hj, _⟩ := get_ints hv
      have fl := filter_snoc (p := fun j => decide (j ≠ k)) hj
      have l1 := List.length_filter_le (fun j => decide (j ≠ k)) (s0.take i)
      rw [List.length_take] at l1
      refine ⟨rfl, .int j, rfl, .int k, rfl, rfl, _, rfl, ?_⟩
      by_cases hjk : j = k
      · have e : (!decide (V.int j = V.int k)) = false := by simp [hjk]
        rw [e]
        refine iteF ?_
        show upd H D _ = upd H D _
        rw [fl]
        simp [hjk]
      · have e : (!decide (V.int j = V.int k)) = true := by simp [hjk]
        rw [e]
        refine iteT ⟨_, rfl, _, upd_same, by rw [List.length_map]; exact small1000 (by omega), ?_⟩
        show upd (upd H D _) D _ = upd H D _
        rw [upd_upd, fl]
        simp [hjk]
    · subst hP
      rw [List.length_map, List.take_length]
      refine ⟨D, _, rfl, .inl ⟨lq upd_same, fun p np => q _ p (((Same.refl H).new hD).new np) ?_⟩⟩
      rw [tog_in hk]
      exact upd_same
  · rw [decide_eq_false hk]
    refine iteF ?_
    refine ⟨.ref b, rfl, .int k, rfl, by show 1 ≤ sizeLine; decide, fun p np => ?_⟩
    have sm1 := (Same.refl H).new (o := .tup [.int k]) np
    have ins' : ∀ l : S, l.Perm (s0 ++ [k]) → l.Pairwise (· ≤ ·) → l = tog s0 k := fun l hp hs => by
      have nd0 : (s0 ++ [k]).Nodup := List.nodup_append.mpr ⟨asc_nodup g.1, by simp, fun x hx y hy e => by
        have : y = k := by simpa using hy
        subst this; subst e
        exact hk hx⟩
      refine asc_ext (perm_asc hp hs nd0) (asc_tog g.1) fun x => ?_
      rw [hp.mem_iff, tog_out hk, PLM.mem_ins, List.mem_append, List.mem_singleton]
      exact Or.comm
    have fin : ∀ (H1 : Hp) (t : Addr) (l : S), Same H H1 → H1 t = some (.tup (l.map V.int)) → l = s0 ++ [k] → rSortedTup K [.ref t] H1 fun v H2 => rTupK K [v] H2 Q := by
      rintro H1 t l sm ht rfl
      refine ⟨t, _, rfl, tq ht, by rw [List.length_append]; show s0.length + 1 < 64; omega, fun L p2 hp hs np2 => ?_⟩
      refine ⟨p2, _, rfl, .inl ⟨lq upd_same, fun p3 np3 => q _ p3 ((sm.new np2).new np3) ?_⟩⟩
      rw [← ins' L hp hs]
      exact upd_same
    refine ⟨b, p, s0.map V.int, [.int k], rfl, rfl, (hb.to sm1).sq, tq upd_same, ?_, fun e => ?_, fun _ e => (by cases e), fun hne _ r nr => ?_⟩
    · rw [List.length_map]
      show s0.length + 1 ≤ sizeLine
      exact Nat.le_of_lt (small1000 (by omega))
    · have e0 : s0 = [] := by simpa using e
      subst e0
      exact fin _ p [k] sm1 upd_same rfl
    · exact fin _ r (s0 ++ [k]) (sm1.new nr) (by rw [upd_same, ← map_snoc]) rfl
/-! ### doable -/
def sp_doable : Sp := fun vs H Q _ => ∃ (wa b : Addr) (n : Int) (ar : Ar) (s : S), vs = [.ref wa, .ref b] ∧ WebAt H wa n ar ∧ Tp H b s ∧ Good n s ∧
  ∀ H' p, Same H H' → H p = none → H' p = some (.lst ((doab n ar s).map V.int)) → Q (.ref p) H'
abbrev N_doable : List PySem.Str := ["web", "burning"]
theorem sc_doable : FnScope N_doable ["web", "burning"] (defScope s_doable) := ⟨rfl, rfl, rfl, by decide +kernel, rfl, by decide +kernel, by decide +kernel⟩
-- deps: light_in quench_in; slots: 0:web 1:burning
theorem ok_doable (F : Src K mg "doable" s_doable) (T : Txt mg) (D_light_in : Def P w K mg base 1 "light_in" ["web", "burning"] sp_light_in) (D_quench_in : Def P w K mg base 1 "quench_in" ["web", "burning"] sp_quench_in) : Def P w K mg base 2 "doable" ["web", "burning"] sp_doable := by
  refine mkDef F sc_doable (fun _ _ _ _ _ _ us hl => match us, hl with | [_, _], _ => rfl) (fun vs H Q E h => ?_) (fun f cdv A outer s H vs Q E hr h => ?_)
  · first | (obtain ⟨_, rfl, _⟩ := h; rfl) | (obtain ⟨_, _, rfl, _⟩ := h; rfl) | (obtain ⟨_, _, _, rfl, _⟩ := h; rfl) | (obtain ⟨_, _, _, _, rfl, _⟩ := h; rfl) | (obtain ⟨_, _, _, _, _, rfl, _⟩ := h; rfl) | (obtain ⟨_, _, _, _, _, _, rfl, _⟩ := h; rfl) | (obtain ⟨_, _, _, _, _, _, _, rfl, _⟩ := h; rfl) | (obtain ⟨_, _, _, _, _, _, _, _, rfl, _⟩ := h; rfl) | (obtain ⟨_, _, _, _, _, _, _, _, _, rfl, _⟩ := h; rfl) | (obtain ⟨_, _, _, _, _, _, _, _, _, _, rfl, _⟩ := h; rfl) | (obtain ⟨_, _, _, _, _, _, _, _, _, _, _, rfl, _⟩ := h; rfl)
  obtain ⟨wa, b, n, ar, s0, rfl, W, hb, g, q⟩ := h
  have gw := W.gw
  have nd := sc_doable.nd
  refine ⟨_, (pss_one (ps_ret (pe_callB sortedK (by rfl) T.b_sorted (by decide +kernel) (pa_cons (pe_op op_cat (pc D_light_in (hr.mono (by decide)) (pa_cons (pv 0) (pa_cons (pv 1) pa_nil))) (pc D_quench_in (hr.mono (by decide)) (pa_cons (pv 0) (pa_cons (pv 1) pa_nil)))) pa_nil)))), ?_⟩
  refine ⟨_, rfl, _, rfl, wa, b, n, ar, s0, rfl, W, hb, g, fun H1 p1 L1 S1 n1 e1 a1 m1 l1 => ?_⟩
  refine ⟨_, rfl, _, rfl, wa, b, n, ar, s0, rfl, W.to S1, hb.to S1, g, fun H2 p2 L2 S2 n2 e2 a2 m2 l2 => ?_⟩
  refine ⟨p1, p2, _, _, rfl, rfl, S2 _ _ e1, e2, by rw [List.length_map, List.length_map]; exact Nat.le_of_lt (small1000 (by omega)), fun p3 n3 => ?_⟩
  have S3 := (S1.trans S2).new (o := .lst (L1.map V.int ++ L2.map V.int)) n3
  have nd0 : (L1 ++ L2).Nodup := List.nodup_append.mpr ⟨asc_nodup a1, asc_nodup a2, fun x hx y hy e => by
    subst e
    exact ((m1 x).mp hx).1 ((m2 x).mp hy).1⟩
  have mem : ∀ k, k ∈ L1 ++ L2 ↔ k ∈ doab n ar s0 := fun k => by
    rw [List.mem_append, m1, m2, mem_doab gw g]
    by_cases hk : k ∈ s0 <;> simp [hk]
  have len : (L1 ++ L2).length ≤ 7 := Nat.le_trans (nodup_le nd0 fun x hx => (mem x).mp hx) (length_doab gw s0)
  refine ⟨p3, L1 ++ L2, rfl, lq (by rw [upd_same, List.map_append]), by omega, fun L p hp hs np => ?_⟩
  have e : L = doab n ar s0 := asc_ext (perm_asc hp hs nd0) (asc_doab n ar s0) fun x => by rw [hp.mem_iff]; exact mem x
  subst e
  exact q _ p (S3.new np) (S3.free np) upd_same
end
end PLW

/-! PLWd -/
set_option Elab.async false
set_option linter.all false
set_option maxRecDepth 100000
set_option maxHeartbeats 4000000
namespace PLW
open PySem PySem.Spec PyProof.Rows L2 PLM PLR
section
variable {P : Program} {w : World} {K : PySem.W.Frag} {mg : Str → Option Value} {base : Heap}
/-! ### is_lamps -/
def sp_is_lamps : Sp := fun vs H Q _ => ∃ (wa v : Addr) (n : Int) (ar : Ar) (wd : List Int), vs = [.ref wa, .ref v] ∧ WebAt H wa n ar ∧ Tp H v wd ∧ wd.length ≤ 200 ∧ (∀ k ∈ wd, 0 ≤ k ∧ k < n) ∧ ∀ H', Same H H' → Q (.bl true) H'
abbrev N_is_lamps : List PySem.Str := ["web", "value", "one"]
theorem sc_is_lamps : FnScope N_is_lamps ["web", "value"] (defScope s_is_lamps) := ⟨rfl, rfl, rfl, by decide +kernel, rfl, by decide +kernel, by decide +kernel⟩
-- deps: is_in; slots: 0:web(cell) 1:value 2:one
theorem ok_is_lamps (F : Src K mg "is_lamps" s_is_lamps) (T : Txt mg) (D_is_in : Def P w K mg base 1 "is_in" ["value", "least", "most"] sp_is_in) : Def P w K mg base 2 "is_lamps" ["web", "value"] sp_is_lamps := by
  refine mkDef F sc_is_lamps (fun _ _ _ _ _ _ us hl => match us, hl with | [_, _], _ => rfl) (fun vs H Q E h => ?_) (fun f cdv A outer s H vs Q E hr h => ?_)
  · first | (obtain ⟨_, rfl, _⟩ := h; rfl) | (obtain ⟨_, _, rfl, _⟩ := h; rfl) | (obtain ⟨_, _, _, rfl, _⟩ := h; rfl) | (obtain ⟨_, _, _, _, rfl, _⟩ := h; rfl) | (obtain ⟨_, _, _, _, _, rfl, _⟩ := h; rfl) | (obtain ⟨_, _, _, _, _, _, rfl, _⟩ := h; rfl) | (obtain ⟨_, _, _, _, _, _, _, rfl, _⟩ := h; rfl) | (obtain ⟨_, _, _, _, _, _, _, _, rfl, _⟩ := h; rfl) | (obtain ⟨_, _, _, _, _, _, _, _, _, rfl, _⟩ := h; rfl) | (obtain ⟨_, _, _, _, _, _, _, _, _, _, rfl, _⟩ := h; rfl) | (obtain ⟨_, _, _, _, _, _, _, _, _, _, _, rfl, _⟩ := h; rfl)
  obtain ⟨tl_word, h_MOST_WORD⟩ := T.word
  obtain ⟨wa, v, n, ar, wd, rfl, W, hv, len, rng, q⟩ := h
  obtain ⟨t, as, h1, h2, h3⟩ := W.ex
  have nd := sc_is_lamps.nd
  refine ⟨_, (pss_cons (ps_if (PW.pt (pw_or (pt_not (pt_val (pe_callB isiK (by rfl) T.b_isinstance (by decide +kernel) (pa_cons (pv 1) (pa_cons (pe_bltn (v := .ty "tuple") (by rfl) T.b_tuple (by decide +kernel) rfl) pa_nil))))) (pw_or1 (pt_cmpR op_gt (pe_callB lenK (by rfl) T.b_len (by decide +kernel) (pa_cons (pv 1) pa_nil)) (pe_glob (v := .int 200) (by rfl) h_MOST_WORD ⟨_, rfl⟩) (nomark _))))) (pss_one (ps_ret pe_bl)) pss_nil)
      (pss_one (ps_ret (pe_cmpR (op_eqDK hr.units) (pe_lc (own := [("one", 2)]) (g := (gName 2)) (by rfl) nd (pi_tupK (pv 1)) (blkK (own := [("one", 2)]) (N := N_is_lamps) (sc := defScope s_is_lamps) (by decide +kernel)) (fun _ _ _ _ _ => (pg_name (i := 2) nd rfl (Or.inl rfl))) (fun _ _ _ _ _ => pts_one (pt_not (pt_val (pc D_is_in (hr.mono (by decide)) (pa_cons (pv 2) (pa_cons pe_int (pa_cons (pe_op op_sub (pe_ix ix_tupK (pv 0) pe_int (fun _ _ => rfl)) pe_int) pa_nil))))))) (fun _ _ _ _ _ => (pv 2))) (pe_lst pa_nil) (nomark _))))), ?_⟩
  refine ⟨_, rfl, _, .ty "tuple", _, _, true, rfl, .ty _, .base (.tup hv), kit_ty (by decide +kernel), true, rfl, iteF ?_⟩
  refine ⟨_, rfl, v, _, rfl, .inr hv.sq, _, _, rfl, rfl, _, rfl, ?_⟩
  rw [List.length_map, decide_eq_false (show ¬ (200 : Int) < (wd.length : Nat) by omega)]
  refine iteF ⟨_, rfl, v, rfl, ⟨_, hv.sq⟩, fun D hD => ?_⟩
  refine lc_pure (fun _ => false) (show 2 < 3 by decide) hD hv.sq (by omega) (fun k hk l Q' hq => ?_) ?_
  · have sm := (Same.refl H).new (o := .lst (l.map V.int)) hD
    have r := rng k hk
    refine ⟨_, rfl, _, rfl, wa, _, 0, .int n, rfl, rfl, tq (sm _ _ h1), atI_nat (j := 0) rfl, n, 1, rfl, rfl, k, 0, n - 1, rfl, true, ?_, hq⟩
    rw [decide_eq_true r.1, decide_eq_true (show k ≤ n - 1 by omega)] <;> rfl
  · have e0 : wd.filter (fun _ => false) = [] := by simp
    rw [e0]
    refine ⟨Nat.zero_le _, fun E1 hE1 => ⟨.list [], .list [], .lst (lq (up upd_same hE1)) .nil, .lst (lq upd_same) .nil, nil_shaped, nil_shaped, ?_⟩⟩
    have e : PyData.eqv (.list []) (.list []) = true := by simp [PyData.eqv, PyData.eqvAll]
    rw [e]
    exact q _ (((Same.refl H).new hD).new hE1)
/-! ### line_in -/
def sp_line_in : Sp := fun vs H Q _ => ∃ (wa b v : Addr) (n : Int) (ar : Ar) (s : S) (t : S) (wd : List Int), vs = [.ref wa, .ref b, .ref v] ∧ WebAt H wa n ar ∧ Tp H b s ∧ Good n s ∧ Tp H v wd ∧ wd.length ≤ 200 ∧ Wd ar (fun _ => True) s t wd ∧
  ∀ H' p as, Same H H' → H p = none → H' p = some (.lst (as.map V.ref)) → Sts H' as (sline s wd) → Q (.ref p) H'
abbrev N_line_in : List PySem.Str := ["web", "burning", "word", "found", "lamp"]
theorem sc_line_in : FnScope N_line_in ["web", "burning", "word"] (defScope s_line_in) := ⟨rfl, rfl, rfl, by decide +kernel, rfl, by decide +kernel, by decide +kernel⟩
-- deps: doable changed; slots: 0:web 1:burning 2:word 3:found 4:lamp
theorem ok_line_in (F : Src K mg "line_in" s_line_in) (T : Txt mg) (D_doable : Def P w K mg base 2 "doable" ["web", "burning"] sp_doable) (D_changed : Def P w K mg base 1 "changed" ["burning", "lamp"] sp_changed) : Def P w K mg base 3 "line_in" ["web", "burning", "word"] sp_line_in := by
  refine mkDef F sc_line_in (fun _ _ _ _ _ _ us hl => match us, hl with | [_, _, _], _ => rfl) (fun vs H Q E h => ?_) (fun f cdv A outer s H vs Q E hr h => ?_)
  · first | (obtain ⟨_, rfl, _⟩ := h; rfl) | (obtain ⟨_, _, rfl, _⟩ := h; rfl) | (obtain ⟨_, _, _, rfl, _⟩ := h; rfl) | (obtain ⟨_, _, _, _, rfl, _⟩ := h; rfl) | (obtain ⟨_, _, _, _, _, rfl, _⟩ := h; rfl) | (obtain ⟨_, _, _, _, _, _, rfl, _⟩ := h; rfl) | (obtain ⟨_, _, _, _, _, _, _, rfl, _⟩ := h; rfl) | (obtain ⟨_, _, _, _, _, _, _, _, rfl, _⟩ := h; rfl) | (obtain ⟨_, _, _, _, _, _, _, _, _, rfl, _⟩ := h; rfl) | (obtain ⟨_, _, _, _, _, _, _, _, _, _, rfl, _⟩ := h; rfl) | (obtain ⟨_, _, _, _, _, _, _, _, _, _, _, rfl, _⟩ := h; rfl)
  obtain ⟨wa, b, v, n, ar, s0, t0, wd, rfl, W, hb, g, hv, len, hw, q⟩ := h
  have gw := W.gw
  have rng := hw.rng gw g
  have nd := sc_line_in.nd
  refine ⟨_, (pss_cons (ps_set (i := 3) nd rfl (.inl rfl) (pe_lst (pa_cons (pv 1) pa_nil)))
      (pss_cons (ps_for PassesOwn.never rfl (pi_tupK (pv 2)) (pg_name (i := 4) nd rfl (.inl rfl)) (pss_cons (ps_if (pt_cmpR op_notInK (pv 4) (pc D_doable (hr.mono (by decide)) (pa_cons (pv 0) (pa_cons (pe_ix ix_listK (pv 3) (pe_un un_neg pe_int) (fun _ _ => rfl)) pa_nil))) (by rfl)) (pss_one (ps_ret (pv 3))) pss_nil)
      (pss_one (ps_expr (pe_bm PySem.F.plainAttrs_list PySem.F.slot_list_append PySem.F.type_list_append mt_append (pv 3) (pa_cons (pc D_changed (hr.mono (by decide)) (pa_cons (pe_ix ix_listK (pv 3) (pe_un un_neg pe_int) (fun _ _ => rfl)) (pa_cons (pv 4) pa_nil))) pa_nil))))))
      (pss_one (ps_ret (pv 3))))), ?_⟩
  refine ⟨.ref b, rfl, by show 1 ≤ sizeLine; decide, fun fo nfo => ?_⟩
  have S0 := (Same.refl H).new (o := .lst [.ref b]) nfo
  refine ⟨.ref v, rfl, v, rfl, ⟨_, (hv.to S0).sq⟩, ?_⟩
  refine for_tup (K := K) (a := v) (xs := wd.map V.int) (fun i σ H' => ∃ (as : List Addr) (y4 : Option V), σ = [some (.ref wa), some (.ref b), some (.ref v), some (.ref fo), y4] ∧ Same H H' ∧ H' fo = some (.lst (as.map V.ref)) ∧ Sts H' as (sline s0 (wd.take i)))
    ⟨[b], none, rfl, S0, upd_same, ⟨rfl, fun i a s h1 h2 => ?_⟩⟩ (fun i σ H' _ ⟨_, _, _, sm, _⟩ => (hv.to sm).sq) (fun i x σ H1 hx hP => ?_) (fun σ H1 hP => ?_)
  · have e1 := h1
    match i, h1, h2 with
    | 0, h1, h2 =>
      obtain rfl : b = a := Option.some.inj h1
      obtain rfl : s0 = s := Option.some.inj h2
      exact hb.to S0
    | i + 1, h1, _ => simp at h1
  · obtain ⟨as, y4, rfl, sm, hf, st⟩ := hP
    obtain ⟨k, rfl, hk, km⟩ := get_ints hx
    have hi : i < wd.length := (List.getElem?_eq_some_iff.mp hk).1
    have can := hw.can hk
    have gu := runs_good (w := wd.take i) g fun j hj => rng j (List.mem_of_mem_take hj)
    have el : (sline s0 (wd.take i))[(sline s0 (wd.take i)).length - 1]? = some (runs s0 (wd.take i)) := by
      rw [length_sline, Nat.add_sub_cancel]
      exact sline_last
    obtain ⟨a, ea, ta⟩ := st.last el
    have la : as.length ≤ 201 := by
      rw [st.1, length_sline, List.length_take]
      omega
    refine ⟨.int k, rfl, .ref wa, rfl, .ref fo, rfl, 1, rfl, fo, _, -1, .ref a, rfl, rfl, lq hf, atI_neg1 ea, wa, a, n, ar, _, rfl, W.to sm, ta, gu, fun H2 p2 S2 n2 e2 => ?_⟩
    refine ⟨p2, _, rfl, .inl (lq e2), rfl, flat_ints _, _, rfl, ?_⟩
    rw [if_pos rfl, inV_ints, decide_eq_true ((mem_doab gw gu).mpr can)]
    refine iteF ⟨.ref fo, rfl, .inl ⟨rfl, _, lq (S2 _ _ hf)⟩, .ref fo, rfl, 1, rfl, fo, _, -1, .ref a, rfl, rfl, lq (S2 _ _ hf), atI_neg1 ea, .int k, rfl, a, n, k, _, rfl, ta.to S2, gu, gw.n7, fun H3 p3 S3 t3 => ?_⟩
    have hf3 := S3 _ _ (S2 _ _ hf)
    refine ⟨fo, _, _, rfl, rfl, hf3, by rw [List.length_map]; exact small1000 (by omega), as ++ [p3], _, rfl, ((sm.trans S2).trans S3).put nfo, by rw [upd_same]; simp, ?_⟩
    rw [take_snoc hk, sline_snoc]
    exact ((st.to (S2.trans S3)).snoc t3).put hf3
  · obtain ⟨as, y4, rfl, sm, hf, st⟩ := hP
    rw [List.length_map, List.take_length] at st
    exact ⟨.ref fo, rfl, q H1 fo as sm nfo hf st⟩
/-! ### line_of -/
def sp_line_of : Sp := sp_line_in
abbrev N_line_of : List PySem.Str := ["web", "burning", "word", "found"]
theorem sc_line_of : FnScope N_line_of ["web", "burning", "word"] (defScope s_line_of) := ⟨rfl, rfl, rfl, by decide +kernel, rfl, by decide +kernel, by decide +kernel⟩
-- deps: need_both is_lamps line_in; slots: 0:web 1:burning 2:word 3:found
theorem ok_line_of (F : Src K mg "line_of" s_line_of) (T : Txt mg) (D_need_both : Def P w K mg base 4 "need_both" ["web", "burning"] sp_need_both) (D_is_lamps : Def P w K mg base 2 "is_lamps" ["web", "value"] sp_is_lamps) (D_line_in : Def P w K mg base 3 "line_in" ["web", "burning", "word"] sp_line_in) : Def P w K mg base 5 "line_of" ["web", "burning", "word"] sp_line_of := by
  refine mkDef F sc_line_of (fun _ _ _ _ _ _ us hl => match us, hl with | [_, _, _], _ => rfl) (fun vs H Q E h => ?_) (fun f cdv A outer s H vs Q E hr h => ?_)
  · first | (obtain ⟨_, rfl, _⟩ := h; rfl) | (obtain ⟨_, _, rfl, _⟩ := h; rfl) | (obtain ⟨_, _, _, rfl, _⟩ := h; rfl) | (obtain ⟨_, _, _, _, rfl, _⟩ := h; rfl) | (obtain ⟨_, _, _, _, _, rfl, _⟩ := h; rfl) | (obtain ⟨_, _, _, _, _, _, rfl, _⟩ := h; rfl) | (obtain ⟨_, _, _, _, _, _, _, rfl, _⟩ := h; rfl) | (obtain ⟨_, _, _, _, _, _, _, _, rfl, _⟩ := h; rfl) | (obtain ⟨_, _, _, _, _, _, _, _, _, rfl, _⟩ := h; rfl) | (obtain ⟨_, _, _, _, _, _, _, _, _, _, rfl, _⟩ := h; rfl) | (obtain ⟨_, _, _, _, _, _, _, _, _, _, _, rfl, _⟩ := h; rfl)
  obtain ⟨wa, b, v, n, ar, s0, t0, wd, rfl, W, hb, g, hv, len, hw, q⟩ := h
  have gw := W.gw
  have rng := hw.rng gw g
  have nd := sc_line_of.nd
  refine ⟨_, (pss_cons (ps_expr (pc D_need_both (hr.mono (by decide)) (pa_cons (pv 0) (pa_cons (pv 1) pa_nil))))
      (pss_cons (ps_if (pt_not (pt_val (pc D_is_lamps (hr.mono (by decide)) (pa_cons (pv 0) (pa_cons (pv 2) pa_nil))))) pss_never pss_nil)
      (pss_cons (ps_set (i := 3) nd rfl (.inl rfl) (pc D_line_in (hr.mono (by decide)) (pa_cons (pv 0) (pa_cons (pv 1) (pa_cons (pv 2) pa_nil)))))
      (pss_cons (ps_if (pt_cmpR op_le (pe_callB lenK (by rfl) T.b_len (by decide +kernel) (pa_cons (pv 3) pa_nil)) (pe_callB lenK (by rfl) T.b_len (by decide +kernel) (pa_cons (pv 2) pa_nil)) (nomark _)) pss_never pss_nil)
      (pss_one (ps_ret (pv 3))))))), ?_⟩
  refine ⟨_, rfl, _, rfl, wa, b, n, ar, s0, rfl, W, hb, g, fun H1 S1 => ?_⟩
  refine ⟨_, rfl, _, rfl, wa, v, n, ar, wd, rfl, W.to S1, hv.to S1, len, rng, fun H2 S2 => ⟨true, rfl, iteF ?_⟩⟩
  have S12 := S1.trans S2
  refine ⟨_, rfl, _, rfl, _, rfl, wa, b, v, n, ar, s0, t0, wd, rfl, W.to S12, hb.to S12, g, hv.to S12, len, hw, fun H3 p as S3 np hp st => ?_⟩
  have S13 := S12.trans S3
  refine ⟨_, rfl, p, _, rfl, .inl (lq hp), _, rfl, v, _, rfl, .inr (hv.to S13).sq, _, _, rfl, rfl, _, rfl, ?_⟩
  rw [List.length_map, List.length_map, st.1, length_sline, decide_eq_false (show ¬ ((wd.length + 1 : Nat) : Int) ≤ (wd.length : Nat) by omega)]
  exact iteF ⟨_, rfl, q H3 p as S13 (S12.free np) hp st⟩
/-! ### run -/
def sp_run : Sp := fun vs H Q _ => ∃ (wa b v : Addr) (n : Int) (ar : Ar) (s : S) (t : S) (wd : List Int), vs = [.ref wa, .ref b, .ref v] ∧ WebAt H wa n ar ∧ Tp H b s ∧ Good n s ∧ Tp H v wd ∧ wd.length ≤ 200 ∧ Wd ar (fun _ => True) s t wd ∧
  ∀ H' p, Same H H' → Tp H' p t → Q (.ref p) H'
abbrev N_run : List PySem.Str := ["web", "burning", "word"]
theorem sc_run : FnScope N_run ["web", "burning", "word"] (defScope s_run) := ⟨rfl, rfl, rfl, by decide +kernel, rfl, by decide +kernel, by decide +kernel⟩
-- deps: line_of; slots: 0:web 1:burning 2:word
theorem ok_run (F : Src K mg "run" s_run) (T : Txt mg) (D_line_of : Def P w K mg base 5 "line_of" ["web", "burning", "word"] sp_line_of) : Def P w K mg base 6 "run" ["web", "burning", "word"] sp_run := by
  refine mkDef F sc_run (fun _ _ _ _ _ _ us hl => match us, hl with | [_, _, _], _ => rfl) (fun vs H Q E h => ?_) (fun f cdv A outer s H vs Q E hr h => ?_)
  · first | (obtain ⟨_, rfl, _⟩ := h; rfl) | (obtain ⟨_, _, rfl, _⟩ := h; rfl) | (obtain ⟨_, _, _, rfl, _⟩ := h; rfl) | (obtain ⟨_, _, _, _, rfl, _⟩ := h; rfl) | (obtain ⟨_, _, _, _, _, rfl, _⟩ := h; rfl) | (obtain ⟨_, _, _, _, _, _, rfl, _⟩ := h; rfl) | (obtain ⟨_, _, _, _, _, _, _, rfl, _⟩ := h; rfl) | (obtain ⟨_, _, _, _, _, _, _, _, rfl, _⟩ := h; rfl) | (obtain ⟨_, _, _, _, _, _, _, _, _, rfl, _⟩ := h; rfl) | (obtain ⟨_, _, _, _, _, _, _, _, _, _, rfl, _⟩ := h; rfl) | (obtain ⟨_, _, _, _, _, _, _, _, _, _, _, rfl, _⟩ := h; rfl)
  obtain ⟨wa, b, v, n, ar, s0, t0, wd, rfl, W, hb, g, hv, len, hw, q⟩ := h
  have nd := sc_run.nd
  refine ⟨_, (pss_one (ps_ret (pe_ix ix_listK (pc D_line_of (hr.mono (by decide)) (pa_cons (pv 0) (pa_cons (pv 1) (pa_cons (pv 2) pa_nil)))) (pe_un un_neg pe_int) (fun _ _ => rfl)))), ?_⟩
  refine ⟨_, rfl, _, rfl, _, rfl, wa, b, v, n, ar, s0, t0, wd, rfl, W, hb, g, hv, len, hw, fun H1 p as S1 np hp st => ?_⟩
  have el : (sline s0 wd)[(sline s0 wd).length - 1]? = some (runs s0 wd) := by
    rw [length_sline, Nat.add_sub_cancel]
    exact sline_last
  obtain ⟨a, ea, ta⟩ := st.last el
  rw [hw.ends] at ta
  exact ⟨1, rfl, p, _, -1, .ref a, rfl, rfl, lq hp, atI_neg1 ea, q H1 a S1 ta⟩
/-! ### comes_in -/
def sp_comes_in : Sp := fun vs H Q _ => ∃ (wa a b : Addr) (n : Int) (ar : Ar) (s t : S), vs = [.ref wa, .ref a, .ref b] ∧ WebAt H wa n ar ∧ Tp H a s ∧ Good n s ∧ Tp H b t ∧ Good n t ∧
  ∀ H' k, Same H H' → (k = true ↔ ∃ m, Pth (Rl n ar fun _ => True) m s t) → Q (.bl k) H'
abbrev N_comes_in : List PySem.Str := ["web", "one", "other", "front", "back", "k"]
theorem sc_comes_in : FnScope N_comes_in ["web", "one", "other"] (defScope s_comes_in) := ⟨rfl, rfl, rfl, by decide +kernel, rfl, by decide +kernel, by decide +kernel⟩
-- deps: led_from turned_in; slots: 0:web 1:one 2:other 3:front(cell) 4:back(cell) 5:k
theorem ok_comes_in (F : Src K mg "comes_in" s_comes_in) (T : Txt mg) (D_led_from : Def P w K mg base 1 "led_from" ["web", "some"] sp_led_from) (D_turned_in : Def P w K mg base 1 "turned_in" ["web"] sp_turned_in) : Def P w K mg base 2 "comes_in" ["web", "one", "other"] sp_comes_in := by
  refine mkDef F sc_comes_in (fun _ _ _ _ _ _ us hl => match us, hl with | [_, _, _], _ => rfl) (fun vs H Q E h => ?_) (fun f cdv A outer s H vs Q E hr h => ?_)
  · first | (obtain ⟨_, rfl, _⟩ := h; rfl) | (obtain ⟨_, _, rfl, _⟩ := h; rfl) | (obtain ⟨_, _, _, rfl, _⟩ := h; rfl) | (obtain ⟨_, _, _, _, rfl, _⟩ := h; rfl) | (obtain ⟨_, _, _, _, _, rfl, _⟩ := h; rfl) | (obtain ⟨_, _, _, _, _, _, rfl, _⟩ := h; rfl) | (obtain ⟨_, _, _, _, _, _, _, rfl, _⟩ := h; rfl) | (obtain ⟨_, _, _, _, _, _, _, _, rfl, _⟩ := h; rfl) | (obtain ⟨_, _, _, _, _, _, _, _, _, rfl, _⟩ := h; rfl) | (obtain ⟨_, _, _, _, _, _, _, _, _, _, rfl, _⟩ := h; rfl) | (obtain ⟨_, _, _, _, _, _, _, _, _, _, _, rfl, _⟩ := h; rfl)
  obtain ⟨wa, a, b, n, ar, s0, t0, rfl, W, ha, gs, hb, gt, q⟩ := h
  have gw := W.gw
  have ls := good_len gs
  have lt := good_len gt
  have n7 := gw.n7
  have nd := sc_comes_in.nd
  refine ⟨_, (pss_cons (ps_asg (pe_tup (pa_cons (pc D_led_from (hr.mono (by decide)) (pa_cons (pv 0) (pa_cons (pv 1) pa_nil))) (pa_cons (pc D_led_from (hr.mono (by decide)) (pa_cons (pc D_turned_in (hr.mono (by decide)) (pa_cons (pv 0) pa_nil)) (pa_cons (pv 2) pa_nil))) pa_nil))) (pg_tup rfl (pgs_cons (pg_name (i := 3) nd rfl (.inr rfl)) (pgs_cons (pg_name (i := 4) nd rfl (.inr rfl)) pgs_nil))))
      (pss_one (ps_ret (pe_and (pe_cmpR (op_eqDK hr.units) (pe_lc (own := [("k", 5)]) (g := (gName 5)) (by rfl) nd (pi_tupK (pv 2)) (blkK (own := [("k", 5)]) (N := N_comes_in) (sc := defScope s_comes_in) (by decide +kernel)) (fun _ _ _ _ _ => (pg_name (i := 5) nd rfl (Or.inl rfl))) (fun _ _ _ _ _ => pts_one (pt_cmpR op_notInK (pv 5) (pv 3) (by rfl))) (fun _ _ _ _ _ => (pv 5))) (pe_lst pa_nil) (nomark _)) (pe_one (pe_cmpR (op_eqDK hr.units) (pe_lc (own := [("k", 5)]) (g := (gName 5)) (by rfl) nd (pi_tupK (pv 1)) (blkK (own := [("k", 5)]) (N := N_comes_in) (sc := defScope s_comes_in) (by decide +kernel)) (fun _ _ _ _ _ => (pg_name (i := 5) nd rfl (Or.inl rfl))) (fun _ _ _ _ _ => pts_one (pt_cmpR op_notInK (pv 5) (pv 4) (by rfl))) (fun _ _ _ _ _ => (pv 5))) (pe_lst pa_nil) (nomark _))))))), ?_⟩
  refine ⟨_, rfl, _, rfl, wa, a, n, ar, s0, rfl, W, ha, gs, fun H1 p1 L1 S1 n1 e1 g1 m1 => ?_⟩
  refine ⟨_, rfl, wa, n, ar, rfl, W.to S1, fun H2 w2 ar2 S2 W2 T2 => ?_⟩
  have S12 := S1.trans S2
  have q : ∀ H' k, Same H H' → (k = true ↔ Comes ar s0 t0) → Q (.bl k) H' := fun H' k S e => q H' k S (e.trans (reach_iff gw W2.gw T2 gs gt).symm)
  refine ⟨_, rfl, w2, b, n, ar2, t0, rfl, W2, hb.to S12, gt, fun H3 p3 L3 S3 n3 e3 g3 m3 => ?_⟩
  have S13 := S12.trans S3
  refine ⟨by show 2 ≤ sizeLine; decide, fun p4 n4 => ?_⟩
  have S14 := S13.new (o := .tup [.ref p1, .ref p3]) n4
  have e1' := up (u := .tup [.ref p1, .ref p3]) (S3 _ _ (S2 _ _ e1)) n4
  have e3' := up (u := .tup [.ref p1, .ref p3]) e3 n4
  refine ⟨p4, _, rfl, tq upd_same, rfl, .ref p1, [.ref p3], rfl, .ref p3, [], rfl, rfl, ?_⟩
  refine ⟨.ref b, rfl, b, rfl, ⟨_, (hb.to S14).sq⟩, fun D hD => ?_⟩
  have S15 := fun o => S14.new (o := o) hD
  refine lc_pure (fun k => !decide (k ∈ L1)) (show 5 < 6 by decide) hD (hb.to S14).sq (by omega) (fun k hk l Q' hq => ?_) ?_
  · refine ⟨.int k, rfl, .ref p1, rfl, p1, _, rfl, .inl (lq (up e1' hD)), rfl, flat_ints L1, _, rfl, ?_⟩
    rw [if_pos rfl, inV_ints]
    exact hq
  refine ⟨Nat.zero_le _, fun E1 nE1 => ⟨_, .list [], dp_lst (lq (up upd_same nE1)), .lst (lq upd_same) .nil, int_shaped _, nil_shaped, _, rfl, ?_⟩⟩
  rw [eqv_nil]
  have S16 := (S15 (.lst ((t0.filter fun k => !decide (k ∈ L1)).map V.int))).new (o := .lst []) nE1
  by_cases c1 : ∀ k ∈ t0, (!decide (k ∈ L1)) = false
  · rw [filter_nil_iff.mpr c1]
    have c1' : Fwd ar s0 t0 := fun k hk => (m1 k).mp (by simpa using c1 k hk)
    refine iteT ⟨.ref a, rfl, a, rfl, ⟨_, (ha.to S16).sq⟩, fun D2 hD2 => ?_⟩
    have e3'' := up (u := .lst []) (up (u := .lst ((t0.filter fun k => !decide (k ∈ L1)).map V.int)) e3' hD) nE1
    refine lc_pure (fun k => !decide (k ∈ L3)) (show 5 < 6 by decide) hD2 (ha.to S16).sq (by omega) (fun k hk l Q' hq => ?_) ?_
    · refine ⟨.int k, rfl, .ref p3, rfl, p3, _, rfl, .inl (lq (up e3'' hD2)), rfl, flat_ints L3, _, rfl, ?_⟩
      rw [if_pos rfl, inV_ints]
      exact hq
    refine ⟨Nat.zero_le _, fun E2 nE2 => ⟨_, .list [], dp_lst (lq (up upd_same nE2)), .lst (lq upd_same) .nil, int_shaped _, nil_shaped, ?_⟩⟩
    rw [eqv_nil]
    refine q _ _ ((S16.new hD2).new nE2) ?_
    rw [filter_nil_iff]
    constructor
    · intro c2
      refine ⟨c1', fun k hk => ?_⟩
      obtain ⟨x, hx, l⟩ := (m3 k).mp (by simpa using c2 k hk)
      exact ⟨x, hx, l.turn T2.symm⟩
    · rintro ⟨_, c2⟩ k hk
      obtain ⟨x, hx, l⟩ := c2 k hk
      simpa using (m3 k).mpr ⟨x, hx, l.turn T2⟩
  · have e : decide ((t0.filter fun k => !decide (k ∈ L1)) = []) = false := Bool.eq_false_iff.mpr fun z => c1 (filter_nil_iff.mp z)
    rw [e]
    refine iteF (q _ _ S16 ⟨fun z => (by cases z), fun z => (c1 fun k hk => ?_).elim⟩)
    simpa using (m1 k).mpr (z.1 k hk)
end
end PLW

/-! PLRp -/
set_option Elab.async false
set_option linter.all false
set_option maxRecDepth 100000
set_option maxHeartbeats 2000000
/-! Breadth first over standings: what the heap holds on the way. -/
namespace PLR
open PySem PySem.Spec PyProof.Rows L2 PLM
theorem Same.free0 {H H' : Hp} {p : Addr} (S : Same H H') (h : H' p = none) : H p = none := by
  cases e : H p with
  | none => rfl
  | some o => rw [S _ _ e] at h; cases h
theorem dget_enc {H : Hp} {a b : Addr} {f : List (S × Int)} {s : S} (h : H a = some (.dT (enc f))) (t : Tp H b s) : DGet H a (.ref b) ((fget f s).map V.int) := by
  have := DGet.t h t.ky
  rw [val_enc] at this
  exact this
theorem dget_in {H : Hp} {a b : Addr} {f : List (S × Int)} {s : S} {z : Int} (h : H a = some (.dT (enc f))) (t : Tp H b s) (nd : (f.map (·.1)).Nodup) (m : (s, z) ∈ f) : DGet H a (.ref b) (some (.int z)) := by
  have := dget_enc h t
  rw [(fget_some nd).mpr m] at this
  exact this
theorem dput_enc {H : Hp} {a b : Addr} {f : List (S × Int)} {s : S} {z : Int} (h : H a = some (.dT (enc f))) (t : Tp H b s) (n : s ∉ f.map (·.1)) (l : f.length ≤ 1000) : DPut H a (.ref b) (.int z) (upd H a (.dT (enc (f ++ [(s, z)])))) := by
  rw [← put_new n]
  exact DPut.t h t.ky (by rw [length_enc]; exact small1000 l)
theorem isD_good {n : Int} {R : S → S → Prop} {b s : S} {d : Nat} (hb : Good n b) (hR : ∀ s t, R s t → Good n t) (h : IsD R b s d) : Good n s := by
  cases d with
  | zero => rw [IsD.zero.mp h]; exact hb
  | succ d => exact (let ⟨u, _, r⟩ := h.prev; hR _ _ r)
theorem bfs_few {n : Int} (h7 : n ≤ 7) {R : S → S → Prop} {b : S} {f fc : List (S × Int)} {rows more : List S} {d : Nat} (hb : Good n b) (hR : ∀ s t, R s t → Good n t) (L : Lv R b f rows d) (M : Md R f rows d fc more) : fc.length ≤ 128 := by
  have e : (fc.map (·.1)).length = fc.length := List.length_map _
  rw [← e]
  refine good_few h7 ?_ fun s hs => ?_
  · rw [M.keys]
    exact List.nodup_append.mpr ⟨L.nd, M.nd, fun x hx y hy e => M.dis y hy (e ▸ hx)⟩
  · rw [M.keys] at hs
    rcases List.mem_append.mp hs with h | h
    · obtain ⟨p, h', rfl⟩ := List.mem_map.mp h
      obtain ⟨e, _, _, i⟩ := L.sub p.1 p.2 h'
      exact isD_good hb hR i
    · obtain ⟨u, _, r⟩ := M.src s h
      exact hR _ _ r
theorem dm_few {n : Int} (h7 : n ≤ 7) {R : S → S → Prop} {b : S} {f : List (S × Int)} (hb : Good n b) (hR : ∀ s t, R s t → Good n t) (D : DM R b f) : f.length ≤ 128 := by
  have e : (f.map (·.1)).length = f.length := List.length_map _
  rw [← e]
  refine good_few h7 D.nd fun s hs => ?_
  obtain ⟨p, h, rfl⟩ := List.mem_map.mp hs
  obtain ⟨d, _, i⟩ := (D.all p.1 p.2).mp h
  exact isD_good hb hR i
structure Bfs (H H' : Hp) (R : S → S → Prop) (f : List (S × Int)) (rows : List S) (d : Nat) (ro dd mo : Addr) (as : List Addr) (fc : List (S × Int)) (mas : List Addr) (more : List S) : Prop where
  sm : Same H H'
  hr : H' ro = some (.lst (as.map V.ref))
  hs : Sts H' as rows
  hd : H' dd = some (.dT (enc fc))
  hm : H' mo = some (.lst (mas.map V.ref))
  ms : Sts H' mas more
  md : Md R f rows d fc more
theorem Bfs.to {H H' H2 : Hp} {R : S → S → Prop} {f fc : List (S × Int)} {rows more : List S} {d : Nat} {ro dd mo : Addr} {as mas : List Addr} (B : Bfs H H' R f rows d ro dd mo as fc mas more) (S : Same H' H2) : Bfs H H2 R f rows d ro dd mo as fc mas more :=
  ⟨B.sm.trans S, S _ _ B.hr, B.hs.to S, S _ _ B.hd, S _ _ B.hm, B.ms.to S, B.md⟩
theorem Bfs.push {H H' : Hp} {R : S → S → Prop} {f fc : List (S × Int)} {rows more : List S} {d : Nat} {ro dd mo a : Addr} {as mas : List Addr} {u t : S} (B : Bfs H H' R f rows d ro dd mo as fc mas more) (hu : u ∈ rows) (r : R u t) (h : t ∉ fc.map (·.1)) (ta : Tp H' a t)
    (n1 : H dd = none) (n2 : H mo = none) (ne : mo ≠ ro) : Bfs H (upd (upd H' dd (.dT (enc (fc ++ [(t, (d : Int) + 1)])))) mo (.lst (mas.map V.ref ++ [V.ref a]))) R f rows d ro dd mo as (fc ++ [(t, (d : Int) + 1)]) (mas ++ [a]) (more ++ [t]) := by
  have nrd : ro ≠ dd := fun e => by
    have := B.hr
    rw [e, B.hd] at this
    cases this
  have nmd : mo ≠ dd := fun e => by
    have := B.hm
    rw [e, B.hd] at this
    cases this
  have hm' : upd H' dd (.dT (enc (fc ++ [(t, (d : Int) + 1)]))) mo = some (.lst (mas.map V.ref)) := by rw [upd_ne nmd]; exact B.hm
  refine ⟨(B.sm.put n1).put n2, ?_, ?_, ?_, ?_, ?_, B.md.new hu r h⟩
  · rw [upd_ne ne.symm, upd_ne nrd]
    exact B.hr
  · exact (B.hs.put B.hd).put hm'
  · rw [upd_ne nmd.symm, upd_same]
  · rw [upd_same]
    simp
  · exact ((B.ms.snoc ta).put B.hd).put hm'
end PLR

/-! PLWe -/
set_option Elab.async false
set_option linter.all false
set_option maxRecDepth 100000
set_option maxHeartbeats 4000000
namespace PLW
open PySem PySem.Spec PyProof.Rows L2 PLM PLR
section
variable {P : Program} {w : World} {K : PySem.W.Frag} {mg : Str → Option Value} {base : Heap}
/-! ### need_two -/
def sp_need_two : Sp := fun vs H Q _ => ∃ (wa a b : Addr) (n : Int) (ar : Ar) (s t : S), vs = [.ref wa, .ref a, .ref b] ∧ WebAt H wa n ar ∧ Tp H a s ∧ Good n s ∧ Tp H b t ∧ Good n t ∧ ∀ H', Same H H' → Q .non H'
abbrev N_need_two : List PySem.Str := ["web", "one", "other"]
theorem sc_need_two : FnScope N_need_two ["web", "one", "other"] (defScope s_need_two) := ⟨rfl, rfl, rfl, by decide +kernel, rfl, by decide +kernel, by decide +kernel⟩
-- deps: need_both need_burning; slots: 0:web 1:one 2:other
theorem ok_need_two (F : Src K mg "need_two" s_need_two) (T : Txt mg) (D_need_both : Def P w K mg base 4 "need_both" ["web", "burning"] sp_need_both) (D_need_burning : Def P w K mg base 2 "need_burning" ["web", "burning"] sp_need_burning) : Def P w K mg base 5 "need_two" ["web", "one", "other"] sp_need_two := by
  refine mkDef F sc_need_two (fun _ _ _ _ _ _ us hl => match us, hl with | [_, _, _], _ => rfl) (fun vs H Q E h => ?_) (fun f cdv A outer s H vs Q E hr h => ?_)
  · first | (obtain ⟨_, rfl, _⟩ := h; rfl) | (obtain ⟨_, _, rfl, _⟩ := h; rfl) | (obtain ⟨_, _, _, rfl, _⟩ := h; rfl) | (obtain ⟨_, _, _, _, rfl, _⟩ := h; rfl) | (obtain ⟨_, _, _, _, _, rfl, _⟩ := h; rfl) | (obtain ⟨_, _, _, _, _, _, rfl, _⟩ := h; rfl) | (obtain ⟨_, _, _, _, _, _, _, rfl, _⟩ := h; rfl) | (obtain ⟨_, _, _, _, _, _, _, _, rfl, _⟩ := h; rfl) | (obtain ⟨_, _, _, _, _, _, _, _, _, rfl, _⟩ := h; rfl) | (obtain ⟨_, _, _, _, _, _, _, _, _, _, rfl, _⟩ := h; rfl) | (obtain ⟨_, _, _, _, _, _, _, _, _, _, _, rfl, _⟩ := h; rfl)
  obtain ⟨wa, a, b, n, ar, s0, t0, rfl, W, ha, gs, hb, gt, q⟩ := h
  have nd := sc_need_two.nd
  refine ⟨_, (pss_cons (ps_expr (pc D_need_both (hr.mono (by decide)) (pa_cons (pv 0) (pa_cons (pv 1) pa_nil))))
      (pss_one (ps_expr (pc D_need_burning (hr.mono (by decide)) (pa_cons (pv 0) (pa_cons (pv 2) pa_nil)))))), ?_⟩
  refine ⟨_, rfl, _, rfl, wa, a, n, ar, s0, rfl, W, ha, gs, fun H1 S1 => ?_⟩
  exact ⟨_, rfl, _, rfl, wa, b, n, ar, t0, rfl, W.to S1, hb.to S1, gt, fun H2 S2 => q H2 (S1.trans S2)⟩
/-! ### steps_from -/
def sp_steps_from : Sp := fun vs H Q _ => ∃ (wa b : Addr) (n : Int) (ar : Ar) (s : S), vs = [.ref wa, .ref b] ∧ WebAt H wa n ar ∧ Tp H b s ∧ Good n s ∧
  ∀ H' p f, Same H H' → H p = none → H' p = some (.dT (enc f)) → DM (Rl n ar fun _ => True) s f → Q (.ref p) H'
abbrev N_steps_from : List PySem.Str := ["web", "burning", "found", "rows", "more", "here", "lamp", "there"]
theorem sc_steps_from : FnScope N_steps_from ["web", "burning"] (defScope s_steps_from) := ⟨rfl, rfl, rfl, by decide +kernel, rfl, by decide +kernel, by decide +kernel⟩
-- deps: doable changed; slots: 0:web 1:burning 2:found 3:rows 4:more 5:here 6:lamp 7:there
theorem ok_steps_from (F : Src K mg "steps_from" s_steps_from) (T : Txt mg) (D_doable : Def P w K mg base 2 "doable" ["web", "burning"] sp_doable) (D_changed : Def P w K mg base 1 "changed" ["burning", "lamp"] sp_changed) : Def P w K mg base 3 "steps_from" ["web", "burning"] sp_steps_from := by
  refine mkDef F sc_steps_from (fun _ _ _ _ _ _ us hl => match us, hl with | [_, _], _ => rfl) (fun vs H Q E h => ?_) (fun f cdv A outer s H vs Q E hr h => ?_)
  · first | (obtain ⟨_, rfl, _⟩ := h; rfl) | (obtain ⟨_, _, rfl, _⟩ := h; rfl) | (obtain ⟨_, _, _, rfl, _⟩ := h; rfl) | (obtain ⟨_, _, _, _, rfl, _⟩ := h; rfl) | (obtain ⟨_, _, _, _, _, rfl, _⟩ := h; rfl) | (obtain ⟨_, _, _, _, _, _, rfl, _⟩ := h; rfl) | (obtain ⟨_, _, _, _, _, _, _, rfl, _⟩ := h; rfl) | (obtain ⟨_, _, _, _, _, _, _, _, rfl, _⟩ := h; rfl) | (obtain ⟨_, _, _, _, _, _, _, _, _, rfl, _⟩ := h; rfl) | (obtain ⟨_, _, _, _, _, _, _, _, _, _, rfl, _⟩ := h; rfl) | (obtain ⟨_, _, _, _, _, _, _, _, _, _, _, rfl, _⟩ := h; rfl)
  obtain ⟨wa, b, n, ar, s0, rfl, W, hb, g, q⟩ := h
  have gw := W.gw
  have hR : ∀ s t, Rl n ar (fun _ => True) s t → Good n t := fun s t r => r.2.1
  have nd := sc_steps_from.nd
  refine ⟨_, (pss_cons (ps_par (i := 2) (j := 3) (by rfl) nd rfl rfl (by decide) rfl rfl (pa_cons (pe_dispT (hu_of hr) (pv 1) pe_int) (pa_cons (pe_lst (pa_cons (pv 1) pa_nil)) pa_nil)) (by rfl))
      (pss_cons (ps_while PassesOwn.never (pt_cmpR (op_neDK hr.units) (pv 3) (pe_lst pa_nil) (nomark _)) (pss_cons (ps_set (i := 4) nd rfl (.inl rfl) (pe_lst pa_nil))
      (pss_cons (ps_for PassesOwn.never rfl (pi_listK (pv 3)) (pg_name (i := 5) nd rfl (.inl rfl)) (pss_one (ps_for PassesOwn.never rfl (pi_listK (pc D_doable (hr.mono (by decide)) (pa_cons (pv 0) (pa_cons (pv 5) pa_nil)))) (pg_name (i := 6) nd rfl (.inl rfl)) (pss_cons (ps_set (i := 7) nd rfl (.inl rfl) (pc D_changed (hr.mono (by decide)) (pa_cons (pv 5) (pa_cons (pv 6) pa_nil))))
      (pss_one (ps_if (pt_cmp (pc_dnotin (hu_of hr) (pv 7) (pv 2))) (pss_cons (ps_dput (hu_of hr) (pv 2) (pv 7) (pe_op op_add (pe_dget (hu_of hr) (pv 2) (pv 5) (fun _ _ => rfl)) pe_int) rfl)
      (pss_one (ps_expr (pe_bm PySem.F.plainAttrs_list PySem.F.slot_list_append PySem.F.type_list_append mt_append (pv 4) (pa_cons (pv 7) pa_nil))))) pss_nil))))))
      (pss_one (ps_set (i := 3) nd rfl (.inl rfl) (pv 4))))))
      (pss_one (ps_ret (pv 2))))), ?_⟩
  refine fun dd ndd => ⟨.ref b, rfl, upd_same, b, ky s0, rfl, (hb.to ((Same.refl H).new ndd)).ky, ?_⟩
  refine ⟨.ref b, rfl, by show 1 ≤ sizeLine; decide, fun ro nro => ⟨_, _, rfl, ?_⟩⟩
  have S0 := (((Same.refl H).new (o := .dT []) ndd).put (o := .dT (enc [(s0, 0)])) ndd).new (o := .lst [.ref b]) nro
  have ndr : dd ≠ ro := fun e => by rw [← e, upd_same] at nro; cases nro
  refine ⟨fun m σ H' => ∃ (f : List (S × Int)) (rows : List S) (as : List Addr) (d : Nat) (ro : Addr) (y4 y5 y6 y7 : Option V), σ = [some (.ref wa), some (.ref b), some (.ref dd), some (.ref ro), y4, y5, y6, y7] ∧ Same H H' ∧ H' dd = some (.dT (enc f)) ∧ H' ro = some (.lst (as.map V.ref)) ∧ Sts H' as rows ∧
    Lv (Rl n ar fun _ => True) s0 f rows d ∧ m = 2 * (200 - f.length) + if rows = [] then 0 else 1,
    ⟨_, [(s0, 0)], [s0], [b], 0, ro, none, none, none, none, rfl, S0, by rw [upd_ne ndr]; exact upd_same, upd_same, Sts.nil.snoc (hb.to S0), lv0 _ _, rfl⟩, ?_⟩
  rintro m σ H1 ⟨f, rows, as, d, ro, y4, y5, y6, y7, rfl, sm, hd, hro, st, L, rfl⟩
  have fewf := bfs_few gw.n7 g hR L md0
  refine ⟨.ref ro, rfl, Nat.zero_le _, fun E1 nE1 => ?_⟩
  have sE := (Same.refl H1).new (o := .lst []) nE1
  refine ⟨_, .list [], .lst (lq (up hro nE1)) (dp_sts (st.to sE)), .lst (lq upd_same) .nil, lst_shaped inD_lay (fun a => Nat.le_succ_of_le (inD_dep a)) rows, nil_shaped, _, rfl, ?_⟩
  rw [eqv_nil]
  by_cases hr0 : rows = []
  · subst hr0
    exact iteF ⟨.ref dd, rfl, q _ dd f (sm.trans sE) ndd (sE _ _ hd) L.fin⟩
  rw [decide_eq_false hr0]
  refine iteT ⟨fun σ' H' => ∃ m', m' < 2 * (200 - f.length) + (if rows = [] then 0 else 1) ∧ _, fun σ' H' h => h, ?_⟩
  rw [if_neg hr0]
  refine ⟨Nat.zero_le _, fun mo nmo => ?_⟩
  have nmo0 : H mo = none := Same.free0 (sm.trans sE) nmo
  have sM := sE.new (o := .lst []) nmo
  have nmr : mo ≠ ro := (ne_of_none (sE _ _ hro) nmo).symm
  refine ⟨.ref ro, rfl, ro, rfl, ⟨_, lq (sM _ _ hro)⟩, ?_⟩
  refine for_list (K := K) (a := ro) (xs := as.map V.ref) (fun i σ H' => ∃ (fc : List (S × Int)) (mas : List Addr) (more : List S) (y5 y6 y7 : Option V), σ = [some (.ref wa), some (.ref b), some (.ref dd), some (.ref ro), some (.ref mo), y5, y6, y7] ∧
    Bfs H H' (Rl n ar fun _ => True) f rows d ro dd mo as fc mas more ∧ ∀ j u, j < i → rows[j]? = some u → ∀ t, Rl n ar (fun _ => True) u t → t ∈ fc.map (·.1))
    ⟨f, [], [], y5, y6, y7, rfl, ⟨sm.trans sM, sM _ _ hro, st.to sM, sM _ _ hd, upd_same, Sts.nil, md0⟩, fun j u hj => absurd hj (Nat.not_lt_zero _)⟩
    (fun i σ H' _ ⟨_, _, _, _, _, _, _, B, _⟩ => lq B.hr) (fun i v σ H2 hv hP => ?_) (fun σ H2 hP => ?_)
  · obtain ⟨fc, mas, more, y5, y6, y7, rfl, B, pre⟩ := hP
    obtain ⟨a, u, rfl, ha, hu, ta⟩ := B.hs.get hv
    have ur : u ∈ rows := List.mem_of_getElem? hu
    have gu : Good n u := isD_good g hR ((L.rows u).mp ur)
    have ud : (u, (d : Int)) ∈ f := L.sup u d (Nat.le_refl _) ((L.rows u).mp ur)
    refine ⟨_, rfl, _, rfl, wa, a, n, ar, u, rfl, W.to B.sm, ta, gu, fun H3 p3 S3 n3 e3 => ⟨p3, rfl, ⟨_, lq e3⟩, ?_⟩⟩
    have n3d := ne_of_none B.hd n3
    have n3m := ne_of_none B.hm n3
    refine for_list (K := K) (a := p3) (xs := (doab n ar u).map V.int) (fun i2 σ H' => ∃ (fc : List (S × Int)) (mas : List Addr) (more : List S) (y6 y7 : Option V), σ = [some (.ref wa), some (.ref b), some (.ref dd), some (.ref ro), some (.ref mo), some (.ref a), y6, y7] ∧
      Bfs H H' (Rl n ar fun _ => True) f rows d ro dd mo as fc mas more ∧ H' p3 = some (.lst ((doab n ar u).map V.int)) ∧ Tp H' a u ∧ (∀ j u, j < i → rows[j]? = some u → ∀ t, Rl n ar (fun _ => True) u t → t ∈ fc.map (·.1)) ∧ ∀ j k, j < i2 → (doab n ar u)[j]? = some k → tog u k ∈ fc.map (·.1))
      ⟨fc, mas, more, y6, y7, rfl, B.to S3, e3, ta.to S3, pre, fun j k hj => absurd hj (Nat.not_lt_zero _)⟩
      (fun i σ H' _ ⟨_, _, _, _, _, _, _, e, _⟩ => lq e) (fun i2 v2 σ H4 hv2 hP => ?_) (fun σ H4 hP => ?_)
    · obtain ⟨fc, mas, more, y6, y7, rfl, B, e4, ta, pre, don⟩ := hP
      obtain ⟨k, rfl, hk, km⟩ := get_ints hv2
      have can := (mem_doab gw gu).mp km
      have kr := can_rng gw gu can
      have gt := good_tog gu kr.1 kr.2
      have rl : Rl n ar (fun _ => True) u (tog u k) := ⟨gu, gt, trivial, trivial, k, can, rfl⟩
      refine ⟨_, rfl, _, rfl, a, n, k, u, rfl, ta, gu, gw.n7, fun H5 p5 S5 t5 => ?_⟩
      have B5 := B.to S5
      have few := bfs_few gw.n7 g hR L B5.md
      have more128 : mas.length ≤ 1000 := by
        have := congrArg List.length B5.md.eq
        rw [List.length_append, List.length_map] at this
        have := B5.ms.1
        omega
      refine ⟨.ref p5, rfl, .ref dd, rfl, dd, _, rfl, dget_enc B5.hd t5, _, rfl, ?_⟩
      by_cases hin : tog u k ∈ fc.map (·.1)
      · have e1 : (fget fc (tog u k)) ≠ none := fun z => fget_none.mp z hin
        have e2 : (!((fget fc (tog u k)).map V.int).isSome) = false := by
          cases h : fget fc (tog u k) with
          | none => exact absurd h e1
          | some z => rfl
        rw [e2]
        refine iteF ⟨fc, mas, more, _, _, rfl, B5, S5 _ _ e4, ta.to S5, pre, fun j k2 hj h2 => ?_⟩
        by_cases hj2 : j = i2
        · subst hj2
          rw [hk] at h2
          cases h2
          exact hin
        · exact don j k2 (by omega) h2
      · have e1 : (!((fget fc (tog u k)).map V.int).isSome) = true := by rw [fget_none.mpr hin] <;> rfl
        rw [e1]
        have ndc : (fc.map (·.1)).Nodup := by
          rw [B5.md.keys]
          exact List.nodup_append.mpr ⟨L.nd, B5.md.nd, fun x hx y hy e => B5.md.dis y hy (e ▸ hx)⟩
        have udc : (u, (d : Int)) ∈ fc := by rw [B5.md.eq]; exact List.mem_append_left _ ud
        have B6 := B5.push ur rl hin t5 ndd nmo0 nmr
        refine iteT ⟨.ref dd, rfl, .ref a, rfl, dd, .int d, rfl, dget_in B5.hd (ta.to S5) ndc udc, d, 1, rfl, rfl, ?_⟩
        refine ⟨.ref dd, rfl, .ref p5, rfl, dd, _, rfl, dput_enc B5.hd t5 hin (by omega), ?_⟩
        have nmd : mo ≠ dd := fun e => by
          have := B5.hm
          rw [e, B5.hd] at this
          cases this
        have hm6 : upd H5 dd (.dT (enc (fc ++ [(tog u k, (d : Int) + 1)]))) mo = some (.lst (mas.map V.ref)) := by rw [upd_ne nmd]; exact B5.hm
        refine ⟨.ref mo, rfl, .inl ⟨rfl, _, lq hm6⟩, .ref p5, rfl, mo, _, _, rfl, rfl, hm6, by rw [List.length_map]; exact small1000 more128, ?_⟩
        refine ⟨_, _, _, _, _, rfl, B6, ?_, ((ta.to S5).put B5.hd).put hm6, fun j v3 hj hj3 t r => ?_, fun j k2 hj h2 => ?_⟩
        · rw [upd_ne n3m.symm, upd_ne n3d.symm]
          exact S5 _ _ e4
        · rw [List.map_append]
          exact List.mem_append_left _ (pre j v3 hj hj3 t r)
        · rw [List.map_append]
          by_cases hj2 : j = i2
          · subst hj2
            rw [hk] at h2
            cases h2
            exact List.mem_append_right _ (by simp)
          · exact List.mem_append_left _ (don j k2 (by omega) h2)
    · obtain ⟨fc, mas, more, y6, y7, rfl, B, e4, ta, pre, don⟩ := hP
      refine ⟨fc, mas, more, _, _, _, rfl, B, fun j v3 hj hj3 t r => ?_⟩
      by_cases hji : j = i
      · subst hji
        rw [hu] at hj3
        cases hj3
        obtain ⟨_, _, _, _, k, can, rfl⟩ := r
        obtain ⟨j2, hj2, e⟩ := List.mem_iff_getElem.mp ((mem_doab gw gu).mpr can)
        exact don j2 k (by rw [List.length_map]; exact hj2) (by rw [List.getElem?_eq_getElem hj2, e])
      · exact pre j v3 (by omega) hj3 t r
  · obtain ⟨fc, mas, more, y5, y6, y7, rfl, B, pre⟩ := hP
    refine ⟨.ref mo, rfl, _, ?_, fc, more, mas, d + 1, mo, _, _, _, _, rfl, B.sm, B.hd, B.hm, B.ms, L.next B.md fun u hu t r => ?_, rfl⟩
    · have few := bfs_few gw.n7 g hR L B.md
      have e := congrArg List.length B.md.eq
      rw [List.length_append, List.length_map] at e
      by_cases hm0 : more = []
      · subst hm0
        rw [if_pos rfl]
        simp at e
        omega
      · have := List.length_pos_iff.mpr hm0
        rw [if_neg hm0]
        omega
    · obtain ⟨j, hj, e⟩ := List.mem_iff_getElem.mp hu
      exact pre j u (by rw [List.length_map, B.hs.1]; exact hj) (by rw [List.getElem?_eq_getElem hj, e]) t r
end
end PLW

/-! PLWf -/
set_option Elab.async false
set_option linter.all false
set_option maxRecDepth 100000
set_option maxHeartbeats 4000000
namespace PLW
open PySem PySem.Spec PyProof.Rows L2 PLM PLR
section
variable {P : Program} {w : World} {K : PySem.W.Frag} {mg : Str → Option Value} {base : Heap}
/-! ### below_from -/
theorem isD_P {P : S → Prop} {R : S → S → Prop} {b s : S} {d : Nat} (hb : P b) (hR : ∀ s t, R s t → P t) (h : IsD R b s d) : P s := by
  cases d with
  | zero => rw [IsD.zero.mp h]; exact hb
  | succ d => exact (let ⟨u, _, r⟩ := h.prev; hR _ _ r)
def okm (m : Int) : S → Prop := fun s => (s.length : Int) ≤ m
def sp_below_from : Sp := fun vs H Q _ => ∃ (wa b : Addr) (n m : Int) (ar : Ar) (s : S), vs = [.ref wa, .ref b, .int m] ∧ WebAt H wa n ar ∧ Tp H b s ∧ Good n s ∧
  ∀ H' p f, Same H H' → H p = none → H' p = some (.dT (enc f)) → (okm m s → DM (Rl n ar (okm m)) s f) → (¬ okm m s → f = []) → Q (.ref p) H'
abbrev N_below_from : List PySem.Str := ["web", "burning", "most", "found", "rows", "more", "here", "lamp", "there"]
theorem sc_below_from : FnScope N_below_from ["web", "burning", "most"] (defScope s_below_from) := ⟨rfl, rfl, rfl, by decide +kernel, rfl, by decide +kernel, by decide +kernel⟩
-- deps: doable changed; slots: 0:web 1:burning 2:most 3:found 4:rows 5:more 6:here 7:lamp 8:there
theorem ok_below_from (F : Src K mg "below_from" s_below_from) (T : Txt mg) (D_doable : Def P w K mg base 2 "doable" ["web", "burning"] sp_doable) (D_changed : Def P w K mg base 1 "changed" ["burning", "lamp"] sp_changed) : Def P w K mg base 3 "below_from" ["web", "burning", "most"] sp_below_from := by
  refine mkDef F sc_below_from (fun _ _ _ _ _ _ us hl => match us, hl with | [_, _, _], _ => rfl) (fun vs H Q E h => ?_) (fun f cdv A outer s H vs Q E hr h => ?_)
  · first | (obtain ⟨_, rfl, _⟩ := h; rfl) | (obtain ⟨_, _, rfl, _⟩ := h; rfl) | (obtain ⟨_, _, _, rfl, _⟩ := h; rfl) | (obtain ⟨_, _, _, _, rfl, _⟩ := h; rfl) | (obtain ⟨_, _, _, _, _, rfl, _⟩ := h; rfl) | (obtain ⟨_, _, _, _, _, _, rfl, _⟩ := h; rfl) | (obtain ⟨_, _, _, _, _, _, _, rfl, _⟩ := h; rfl) | (obtain ⟨_, _, _, _, _, _, _, _, rfl, _⟩ := h; rfl) | (obtain ⟨_, _, _, _, _, _, _, _, _, rfl, _⟩ := h; rfl) | (obtain ⟨_, _, _, _, _, _, _, _, _, _, rfl, _⟩ := h; rfl) | (obtain ⟨_, _, _, _, _, _, _, _, _, _, _, rfl, _⟩ := h; rfl)
  obtain ⟨wa, b, n, m, ar, s0, rfl, W, hb, g, q⟩ := h
  have gw := W.gw
  have hR : ∀ s t, Rl n ar (okm m) s t → Good n t := fun s t r => r.2.1
  have nd := sc_below_from.nd
  refine ⟨_, (pss_cons (ps_if (pt_cmpR op_gt (pe_callB lenK (by rfl) T.b_len (by decide +kernel) (pa_cons (pv 1) pa_nil)) (pv 2) (nomark _)) (pss_one (ps_ret pe_dnewT)) pss_nil)
      (pss_cons (ps_par (i := 3) (j := 4) (by rfl) nd rfl rfl (by decide) rfl rfl (pa_cons (pe_dispT (hu_of hr) (pv 1) pe_int) (pa_cons (pe_lst (pa_cons (pv 1) pa_nil)) pa_nil)) (by rfl))
      (pss_cons (ps_while PassesOwn.never (pt_cmpR (op_neDK hr.units) (pv 4) (pe_lst pa_nil) (nomark _)) (pss_cons (ps_set (i := 5) nd rfl (.inl rfl) (pe_lst pa_nil))
      (pss_cons (ps_for PassesOwn.never rfl (pi_listK (pv 4)) (pg_name (i := 6) nd rfl (.inl rfl)) (pss_one (ps_for PassesOwn.never rfl (pi_listK (pc D_doable (hr.mono (by decide)) (pa_cons (pv 0) (pa_cons (pv 6) pa_nil)))) (pg_name (i := 7) nd rfl (.inl rfl)) (pss_cons (ps_set (i := 8) nd rfl (.inl rfl) (pc D_changed (hr.mono (by decide)) (pa_cons (pv 6) (pa_cons (pv 7) pa_nil))))
      (pss_one (ps_if (PW.pt (pw_and (pt_cmp (pc_dnotin (hu_of hr) (pv 8) (pv 3))) (pw_and1 (pt_cmpR op_le (pe_callB lenK (by rfl) T.b_len (by decide +kernel) (pa_cons (pv 8) pa_nil)) (pv 2) (nomark _))))) (pss_cons (ps_dput (hu_of hr) (pv 3) (pv 8) (pe_op op_add (pe_dget (hu_of hr) (pv 3) (pv 6) (fun _ _ => rfl)) pe_int) rfl)
      (pss_one (ps_expr (pe_bm PySem.F.plainAttrs_list PySem.F.slot_list_append PySem.F.type_list_append mt_append (pv 5) (pa_cons (pv 8) pa_nil))))) pss_nil))))))
      (pss_one (ps_set (i := 4) nd rfl (.inl rfl) (pv 5))))))
      (pss_one (ps_ret (pv 3)))))), ?_⟩
  refine ⟨.ref b, rfl, b, _, rfl, .inr hb.sq, .int m, rfl, _, _, rfl, rfl, _, rfl, ?_⟩
  rw [List.length_map]
  by_cases ok0 : ¬ okm m s0
  · rw [decide_eq_true (show m < (s0.length : Nat) from by have h : ¬ ((s0.length : Int) ≤ m) := ok0; omega)]
    exact iteT fun p np => q _ p [] ((Same.refl H).new np) np upd_same (fun h => absurd h ok0) fun _ => rfl
  have ok0 : okm m s0 := Classical.not_not.mp ok0
  rw [decide_eq_false (show ¬ m < (s0.length : Nat) from by have h : (s0.length : Int) ≤ m := ok0; omega)]
  refine iteF ?_
  refine fun dd ndd => ⟨.ref b, rfl, upd_same, b, ky s0, rfl, (hb.to ((Same.refl H).new ndd)).ky, ?_⟩
  refine ⟨.ref b, rfl, by show 1 ≤ sizeLine; decide, fun ro nro => ⟨_, _, rfl, ?_⟩⟩
  have S0 := (((Same.refl H).new (o := .dT []) ndd).put (o := .dT (enc [(s0, 0)])) ndd).new (o := .lst [.ref b]) nro
  have ndr : dd ≠ ro := fun e => by rw [← e, upd_same] at nro; cases nro
  refine ⟨fun mu σ H' => ∃ (f : List (S × Int)) (rows : List S) (as : List Addr) (d : Nat) (ro : Addr) (y4 y5 y6 y7 : Option V), σ = [some (.ref wa), some (.ref b), some (.int m), some (.ref dd), some (.ref ro), y4, y5, y6, y7] ∧ Same H H' ∧ H' dd = some (.dT (enc f)) ∧ H' ro = some (.lst (as.map V.ref)) ∧ Sts H' as rows ∧
    Lv (Rl n ar (okm m)) s0 f rows d ∧ mu = 2 * (200 - f.length) + if rows = [] then 0 else 1,
    ⟨_, [(s0, 0)], [s0], [b], 0, ro, none, none, none, none, rfl, S0, by rw [upd_ne ndr]; exact upd_same, upd_same, Sts.nil.snoc (hb.to S0), lv0 _ _, rfl⟩, ?_⟩
  rintro mu σ H1 ⟨f, rows, as, d, ro, y4, y5, y6, y7, rfl, sm, hd, hro, st, L, rfl⟩
  have fewf := bfs_few gw.n7 g hR L md0
  refine ⟨.ref ro, rfl, Nat.zero_le _, fun E1 nE1 => ?_⟩
  have sE := (Same.refl H1).new (o := .lst []) nE1
  refine ⟨_, .list [], .lst (lq (up hro nE1)) (dp_sts (st.to sE)), .lst (lq upd_same) .nil, lst_shaped inD_lay (fun a => Nat.le_succ_of_le (inD_dep a)) rows, nil_shaped, _, rfl, ?_⟩
  rw [eqv_nil]
  by_cases hr0 : rows = []
  · subst hr0
    exact iteF ⟨.ref dd, rfl, q _ dd f (sm.trans sE) ndd (sE _ _ hd) (fun _ => L.fin) fun h => absurd ok0 h⟩
  rw [decide_eq_false hr0]
  refine iteT ⟨fun σ' H' => ∃ m', m' < 2 * (200 - f.length) + (if rows = [] then 0 else 1) ∧ _, fun σ' H' h => h, ?_⟩
  rw [if_neg hr0]
  refine ⟨Nat.zero_le _, fun mo nmo => ?_⟩
  have nmo0 : H mo = none := Same.free0 (sm.trans sE) nmo
  have sM := sE.new (o := .lst []) nmo
  have nmr : mo ≠ ro := (ne_of_none (sE _ _ hro) nmo).symm
  refine ⟨.ref ro, rfl, ro, rfl, ⟨_, lq (sM _ _ hro)⟩, ?_⟩
  refine for_list (K := K) (a := ro) (xs := as.map V.ref) (fun i σ H' => ∃ (fc : List (S × Int)) (mas : List Addr) (more : List S) (y5 y6 y7 : Option V), σ = [some (.ref wa), some (.ref b), some (.int m), some (.ref dd), some (.ref ro), some (.ref mo), y5, y6, y7] ∧
    Bfs H H' (Rl n ar (okm m)) f rows d ro dd mo as fc mas more ∧ ∀ j u, j < i → rows[j]? = some u → ∀ t, Rl n ar (okm m) u t → t ∈ fc.map (·.1))
    ⟨f, [], [], y5, y6, y7, rfl, ⟨sm.trans sM, sM _ _ hro, st.to sM, sM _ _ hd, upd_same, Sts.nil, md0⟩, fun j u hj => absurd hj (Nat.not_lt_zero _)⟩
    (fun i σ H' _ ⟨_, _, _, _, _, _, _, B, _⟩ => lq B.hr) (fun i v σ H2 hv hP => ?_) (fun σ H2 hP => ?_)
  · obtain ⟨fc, mas, more, y5, y6, y7, rfl, B, pre⟩ := hP
    obtain ⟨a, u, rfl, ha, hu, ta⟩ := B.hs.get hv
    have ur : u ∈ rows := List.mem_of_getElem? hu
    have gu : Good n u := isD_good g hR ((L.rows u).mp ur)
    have oku : okm m u := isD_P ok0 (fun s t r => r.2.2.2.1) ((L.rows u).mp ur)
    have ud : (u, (d : Int)) ∈ f := L.sup u d (Nat.le_refl _) ((L.rows u).mp ur)
    refine ⟨_, rfl, _, rfl, wa, a, n, ar, u, rfl, W.to B.sm, ta, gu, fun H3 p3 S3 n3 e3 => ⟨p3, rfl, ⟨_, lq e3⟩, ?_⟩⟩
    have n3d := ne_of_none B.hd n3
    have n3m := ne_of_none B.hm n3
    refine for_list (K := K) (a := p3) (xs := (doab n ar u).map V.int) (fun i2 σ H' => ∃ (fc : List (S × Int)) (mas : List Addr) (more : List S) (y6 y7 : Option V), σ = [some (.ref wa), some (.ref b), some (.int m), some (.ref dd), some (.ref ro), some (.ref mo), some (.ref a), y6, y7] ∧
      Bfs H H' (Rl n ar (okm m)) f rows d ro dd mo as fc mas more ∧ H' p3 = some (.lst ((doab n ar u).map V.int)) ∧ Tp H' a u ∧ (∀ j u, j < i → rows[j]? = some u → ∀ t, Rl n ar (okm m) u t → t ∈ fc.map (·.1)) ∧ ∀ j k, j < i2 → (doab n ar u)[j]? = some k → okm m (tog u k) → tog u k ∈ fc.map (·.1))
      ⟨fc, mas, more, y6, y7, rfl, B.to S3, e3, ta.to S3, pre, fun j k hj => absurd hj (Nat.not_lt_zero _)⟩
      (fun i σ H' _ ⟨_, _, _, _, _, _, _, e, _⟩ => lq e) (fun i2 v2 σ H4 hv2 hP => ?_) (fun σ H4 hP => ?_)
    · obtain ⟨fc, mas, more, y6, y7, rfl, B, e4, ta, pre, don⟩ := hP
      obtain ⟨k, rfl, hk, km⟩ := get_ints hv2
      have can := (mem_doab gw gu).mp km
      have kr := can_rng gw gu can
      have gt := good_tog gu kr.1 kr.2
      refine ⟨_, rfl, _, rfl, a, n, k, u, rfl, ta, gu, gw.n7, fun H5 p5 S5 t5 => ?_⟩
      have B5 := B.to S5
      have few := bfs_few gw.n7 g hR L B5.md
      have more128 : mas.length ≤ 1000 := by
        have := congrArg List.length B5.md.eq
        rw [List.length_append, List.length_map] at this
        have := B5.ms.1
        omega
      refine ⟨.ref p5, rfl, .ref dd, rfl, dd, _, rfl, dget_enc B5.hd t5, _, rfl, ?_⟩
      by_cases hin : tog u k ∈ fc.map (·.1)
      · have e1 : (fget fc (tog u k)) ≠ none := fun z => fget_none.mp z hin
        have e2 : (!((fget fc (tog u k)).map V.int).isSome) = false := by
          cases h : fget fc (tog u k) with
          | none => exact absurd h e1
          | some z => rfl
        rw [e2]
        refine iteF ⟨fc, mas, more, _, _, rfl, B5, S5 _ _ e4, ta.to S5, pre, fun j k2 hj h2 ok2 => ?_⟩
        by_cases hj2 : j = i2
        · subst hj2
          rw [hk] at h2
          cases h2
          exact hin
        · exact don j k2 (by omega) h2 ok2
      · have e1 : (!((fget fc (tog u k)).map V.int).isSome) = true := by rw [fget_none.mpr hin] <;> rfl
        rw [e1]
        have ndc : (fc.map (·.1)).Nodup := by
          rw [B5.md.keys]
          exact List.nodup_append.mpr ⟨L.nd, B5.md.nd, fun x hx y hy e => B5.md.dis y hy (e ▸ hx)⟩
        have udc : (u, (d : Int)) ∈ fc := by rw [B5.md.eq]; exact List.mem_append_left _ ud
        refine iteT ⟨.ref p5, rfl, p5, _, rfl, .inr t5.sq, .int m, rfl, _, _, rfl, rfl, _, rfl, ?_⟩
        rw [List.length_map]
        by_cases okt : ¬ okm m (tog u k)
        · rw [decide_eq_false (show ¬ ((tog u k).length : Int) ≤ m from okt)]
          refine iteF ⟨fc, mas, more, _, _, rfl, B5, S5 _ _ e4, ta.to S5, pre, fun j k2 hj h2 ok2 => ?_⟩
          by_cases hj2 : j = i2
          · subst hj2
            rw [hk] at h2
            cases h2
            exact absurd ok2 okt
          · exact don j k2 (by omega) h2 ok2
        have okt : okm m (tog u k) := Classical.not_not.mp okt
        rw [decide_eq_true (show ((tog u k).length : Int) ≤ m from okt)]
        have rl : Rl n ar (okm m) u (tog u k) := ⟨gu, gt, oku, okt, k, can, rfl⟩
        have B6 := B5.push ur rl hin t5 ndd nmo0 nmr
        refine iteT ⟨.ref dd, rfl, .ref a, rfl, dd, .int d, rfl, dget_in B5.hd (ta.to S5) ndc udc, d, 1, rfl, rfl, ?_⟩
        refine ⟨.ref dd, rfl, .ref p5, rfl, dd, _, rfl, dput_enc B5.hd t5 hin (by omega), ?_⟩
        have nmd : mo ≠ dd := fun e => by
          have := B5.hm
          rw [e, B5.hd] at this
          cases this
        have hm6 : upd H5 dd (.dT (enc (fc ++ [(tog u k, (d : Int) + 1)]))) mo = some (.lst (mas.map V.ref)) := by rw [upd_ne nmd]; exact B5.hm
        refine ⟨.ref mo, rfl, .inl ⟨rfl, _, lq hm6⟩, .ref p5, rfl, mo, _, _, rfl, rfl, hm6, by rw [List.length_map]; exact small1000 more128, ?_⟩
        refine ⟨_, _, _, _, _, rfl, B6, ?_, ((ta.to S5).put B5.hd).put hm6, fun j v3 hj hj3 t r => ?_, fun j k2 hj h2 ok2 => ?_⟩
        · rw [upd_ne n3m.symm, upd_ne n3d.symm]
          exact S5 _ _ e4
        · rw [List.map_append]
          exact List.mem_append_left _ (pre j v3 hj hj3 t r)
        · rw [List.map_append]
          by_cases hj2 : j = i2
          · subst hj2
            rw [hk] at h2
            cases h2
            exact List.mem_append_right _ (by simp)
          · exact List.mem_append_left _ (don j k2 (by omega) h2 ok2)
    · obtain ⟨fc, mas, more, y6, y7, rfl, B, e4, ta, pre, don⟩ := hP
      refine ⟨fc, mas, more, _, _, _, rfl, B, fun j v3 hj hj3 t r => ?_⟩
      by_cases hji : j = i
      · subst hji
        rw [hu] at hj3
        cases hj3
        obtain ⟨_, _, _, okt, k, can, rfl⟩ := r
        obtain ⟨j2, hj2, e⟩ := List.mem_iff_getElem.mp ((mem_doab gw gu).mpr can)
        exact don j2 k (by rw [List.length_map]; exact hj2) (by rw [List.getElem?_eq_getElem hj2, e]) okt
      · exact pre j v3 (by omega) hj3 t r
  · obtain ⟨fc, mas, more, y5, y6, y7, rfl, B, pre⟩ := hP
    refine ⟨.ref mo, rfl, _, ?_, fc, more, mas, d + 1, mo, _, _, _, _, rfl, B.sm, B.hd, B.hm, B.ms, L.next B.md fun u hu t r => ?_, rfl⟩
    · have few := bfs_few gw.n7 g hR L B.md
      have e := congrArg List.length B.md.eq
      rw [List.length_append, List.length_map] at e
      by_cases hm0 : more = []
      · subst hm0
        rw [if_pos rfl]
        simp at e
        omega
      · have := List.length_pos_iff.mpr hm0
        rw [if_neg hm0]
        omega
    · obtain ⟨j, hj, e⟩ := List.mem_iff_getElem.mp hu
      exact pre j u (by rw [List.length_map, B.hs.1]; exact hj) (by rw [List.getElem?_eq_getElem hj, e]) t r
/-! ### steps_to, fewest -/
def sp_steps_to : Sp := fun vs H Q _ => ∃ (wa b : Addr) (n : Int) (ar : Ar) (s : S), vs = [.ref wa, .ref b] ∧ WebAt H wa n ar ∧ Tp H b s ∧ Good n s ∧
  ∀ H' p f ar', Same H H' → H p = none → H' p = some (.dT (enc f)) → GW n ar' → Turn ar ar' → DM (Rl n ar' fun _ => True) s f → Q (.ref p) H'
abbrev N_steps_to : List PySem.Str := ["web", "burning"]
theorem sc_steps_to : FnScope N_steps_to ["web", "burning"] (defScope s_steps_to) := ⟨rfl, rfl, rfl, by decide +kernel, rfl, by decide +kernel, by decide +kernel⟩
-- deps: steps_from turned_in; slots: 0:web 1:burning
theorem ok_steps_to (F : Src K mg "steps_to" s_steps_to) (T : Txt mg) (D_steps_from : Def P w K mg base 3 "steps_from" ["web", "burning"] sp_steps_from) (D_turned_in : Def P w K mg base 1 "turned_in" ["web"] sp_turned_in) : Def P w K mg base 4 "steps_to" ["web", "burning"] sp_steps_to := by
  refine mkDef F sc_steps_to (fun _ _ _ _ _ _ us hl => match us, hl with | [_, _], _ => rfl) (fun vs H Q E h => ?_) (fun f cdv A outer s H vs Q E hr h => ?_)
  · first | (obtain ⟨_, rfl, _⟩ := h; rfl) | (obtain ⟨_, _, rfl, _⟩ := h; rfl) | (obtain ⟨_, _, _, rfl, _⟩ := h; rfl) | (obtain ⟨_, _, _, _, rfl, _⟩ := h; rfl) | (obtain ⟨_, _, _, _, _, rfl, _⟩ := h; rfl) | (obtain ⟨_, _, _, _, _, _, rfl, _⟩ := h; rfl) | (obtain ⟨_, _, _, _, _, _, _, rfl, _⟩ := h; rfl) | (obtain ⟨_, _, _, _, _, _, _, _, rfl, _⟩ := h; rfl) | (obtain ⟨_, _, _, _, _, _, _, _, _, rfl, _⟩ := h; rfl) | (obtain ⟨_, _, _, _, _, _, _, _, _, _, rfl, _⟩ := h; rfl) | (obtain ⟨_, _, _, _, _, _, _, _, _, _, _, rfl, _⟩ := h; rfl)
  obtain ⟨wa, b, n, ar, s0, rfl, W, hb, g, q⟩ := h
  have nd := sc_steps_to.nd
  refine ⟨_, (pss_one (ps_ret (pc D_steps_from (hr.mono (by decide)) (pa_cons (pc D_turned_in (hr.mono (by decide)) (pa_cons (pv 0) pa_nil)) (pa_cons (pv 1) pa_nil))))), ?_⟩
  refine ⟨_, rfl, wa, n, ar, rfl, W, fun H1 w1 ar1 S1 W1 T1 => ⟨_, rfl, w1, b, n, ar1, s0, rfl, W1, hb.to S1, g, fun H2 p f S2 np e D => ?_⟩⟩
  exact q H2 p f ar1 (S1.trans S2) (Same.free0 S1 np) e W1.gw T1 D
def valO (f : List (S × Int)) (t : S) : V := ((fget f t).map V.int).getD .non
theorem isD_dT {H : Hp} {p : Addr} {f : List (S × Int)} (e : H p = some (.dT (enc f))) : L2.IsD H p := .inr ⟨_, .inl e⟩
def sp_fewest : Sp := fun vs H Q _ => ∃ (wa a b : Addr) (n : Int) (ar : Ar) (s t : S), vs = [.ref wa, .ref a, .ref b] ∧ WebAt H wa n ar ∧ Tp H a s ∧ Good n s ∧ Tp H b t ∧ Good n t ∧
  ∀ H' f, Same H H' → DM (Rl n ar fun _ => True) s f → Q (valO f t) H'
abbrev N_fewest : List PySem.Str := ["web", "one", "other"]
theorem sc_fewest : FnScope N_fewest ["web", "one", "other"] (defScope s_fewest) := ⟨rfl, rfl, rfl, by decide +kernel, rfl, by decide +kernel, by decide +kernel⟩
-- deps: need_two steps_from; slots: 0:web 1:one 2:other
theorem ok_fewest (F : Src K mg "fewest" s_fewest) (T : Txt mg) (D_need_two : Def P w K mg base 5 "need_two" ["web", "one", "other"] sp_need_two) (D_steps_from : Def P w K mg base 3 "steps_from" ["web", "burning"] sp_steps_from) : Def P w K mg base 6 "fewest" ["web", "one", "other"] sp_fewest := by
  refine mkDef F sc_fewest (fun _ _ _ _ _ _ us hl => match us, hl with | [_, _, _], _ => rfl) (fun vs H Q E h => ?_) (fun f cdv A outer s H vs Q E hr h => ?_)
  · first | (obtain ⟨_, rfl, _⟩ := h; rfl) | (obtain ⟨_, _, rfl, _⟩ := h; rfl) | (obtain ⟨_, _, _, rfl, _⟩ := h; rfl) | (obtain ⟨_, _, _, _, rfl, _⟩ := h; rfl) | (obtain ⟨_, _, _, _, _, rfl, _⟩ := h; rfl) | (obtain ⟨_, _, _, _, _, _, rfl, _⟩ := h; rfl) | (obtain ⟨_, _, _, _, _, _, _, rfl, _⟩ := h; rfl) | (obtain ⟨_, _, _, _, _, _, _, _, rfl, _⟩ := h; rfl) | (obtain ⟨_, _, _, _, _, _, _, _, _, rfl, _⟩ := h; rfl) | (obtain ⟨_, _, _, _, _, _, _, _, _, _, rfl, _⟩ := h; rfl) | (obtain ⟨_, _, _, _, _, _, _, _, _, _, _, rfl, _⟩ := h; rfl)
  obtain ⟨wa, a, b, n, ar, s0, t0, rfl, W, ha, gs, hb, gt, q⟩ := h
  have nd := sc_fewest.nd
  refine ⟨_, (pss_cons (ps_expr (pc D_need_two (hr.mono (by decide)) (pa_cons (pv 0) (pa_cons (pv 1) (pa_cons (pv 2) pa_nil)))))
      (pss_one (ps_ret (pe_dget2 (hu_of hr) (pc D_steps_from (hr.mono (by decide)) (pa_cons (pv 0) (pa_cons (pv 1) pa_nil))) (pv 2) pe_non ⟨rfl, rfl, rfl, rfl⟩)))), ?_⟩
  refine ⟨_, rfl, _, rfl, _, rfl, wa, a, b, n, ar, s0, t0, rfl, W, ha, gs, hb, gt, fun H1 S1 => ?_⟩
  refine ⟨_, rfl, _, rfl, wa, a, n, ar, s0, rfl, W.to S1, ha.to S1, gs, fun H2 p f S2 np e D => ?_⟩
  have S12 := S1.trans S2
  exact ⟨p, rfl, isD_dT e, .ref b, rfl, _, dget_enc e (hb.to S12), q H2 f S12 D⟩
/-! ### need_deeds, need_most, fewest_below -/
def sp_need_deeds : Sp := fun vs H Q _ => ∃ m : Int, vs = [.int m] ∧ 0 ≤ m ∧ m ≤ 20 ∧ Q .non H
abbrev N_need_deeds : List PySem.Str := ["many"]
theorem sc_need_deeds : FnScope N_need_deeds ["many"] (defScope s_need_deeds) := ⟨rfl, rfl, rfl, by decide +kernel, rfl, by decide +kernel, by decide +kernel⟩
-- deps: is_in; slots: 0:many
theorem ok_need_deeds (F : Src K mg "need_deeds" s_need_deeds) (T : Txt mg) (D_is_in : Def P w K mg base 1 "is_in" ["value", "least", "most"] sp_is_in) : Def P w K mg base 2 "need_deeds" ["many"] sp_need_deeds := by
  refine mkDef F sc_need_deeds (fun _ _ _ _ _ _ us hl => match us, hl with | [_], _ => rfl) (fun vs H Q E h => ?_) (fun f cdv A outer s H vs Q E hr h => ?_)
  · first | (obtain ⟨_, rfl, _⟩ := h; rfl) | (obtain ⟨_, _, rfl, _⟩ := h; rfl) | (obtain ⟨_, _, _, rfl, _⟩ := h; rfl) | (obtain ⟨_, _, _, _, rfl, _⟩ := h; rfl) | (obtain ⟨_, _, _, _, _, rfl, _⟩ := h; rfl) | (obtain ⟨_, _, _, _, _, _, rfl, _⟩ := h; rfl) | (obtain ⟨_, _, _, _, _, _, _, rfl, _⟩ := h; rfl) | (obtain ⟨_, _, _, _, _, _, _, _, rfl, _⟩ := h; rfl) | (obtain ⟨_, _, _, _, _, _, _, _, _, rfl, _⟩ := h; rfl) | (obtain ⟨_, _, _, _, _, _, _, _, _, _, rfl, _⟩ := h; rfl) | (obtain ⟨_, _, _, _, _, _, _, _, _, _, _, rfl, _⟩ := h; rfl)
  obtain ⟨tl_deeds, h_MOST_DEEDS⟩ := T.deeds
  obtain ⟨m, rfl, m0, m1, q⟩ := h
  have nd := sc_need_deeds.nd
  refine ⟨_, (pss_one (ps_if (pt_not (pt_val (pc D_is_in (hr.mono (by decide)) (pa_cons (pv 0) (pa_cons pe_int (pa_cons (pe_glob (v := .int 20) (by rfl) h_MOST_DEEDS ⟨_, rfl⟩) pa_nil)))))) pss_never pss_nil)), ?_⟩
  refine ⟨_, rfl, m, 0, 20, rfl, true, ?_, iteF q⟩
  rw [decide_eq_true m0, decide_eq_true m1] <;> rfl
def sp_need_most : Sp := fun vs H Q _ => ∃ m : Int, vs = [.int m] ∧ 0 ≤ m ∧ m ≤ 9 ∧ Q .non H
abbrev N_need_most : List PySem.Str := ["most"]
theorem sc_need_most : FnScope N_need_most ["most"] (defScope s_need_most) := ⟨rfl, rfl, rfl, by decide +kernel, rfl, by decide +kernel, by decide +kernel⟩
-- deps: is_in; slots: 0:most
theorem ok_need_most (F : Src K mg "need_most" s_need_most) (T : Txt mg) (D_is_in : Def P w K mg base 1 "is_in" ["value", "least", "most"] sp_is_in) : Def P w K mg base 2 "need_most" ["most"] sp_need_most := by
  refine mkDef F sc_need_most (fun _ _ _ _ _ _ us hl => match us, hl with | [_], _ => rfl) (fun vs H Q E h => ?_) (fun f cdv A outer s H vs Q E hr h => ?_)
  · first | (obtain ⟨_, rfl, _⟩ := h; rfl) | (obtain ⟨_, _, rfl, _⟩ := h; rfl) | (obtain ⟨_, _, _, rfl, _⟩ := h; rfl) | (obtain ⟨_, _, _, _, rfl, _⟩ := h; rfl) | (obtain ⟨_, _, _, _, _, rfl, _⟩ := h; rfl) | (obtain ⟨_, _, _, _, _, _, rfl, _⟩ := h; rfl) | (obtain ⟨_, _, _, _, _, _, _, rfl, _⟩ := h; rfl) | (obtain ⟨_, _, _, _, _, _, _, _, rfl, _⟩ := h; rfl) | (obtain ⟨_, _, _, _, _, _, _, _, _, rfl, _⟩ := h; rfl) | (obtain ⟨_, _, _, _, _, _, _, _, _, _, rfl, _⟩ := h; rfl) | (obtain ⟨_, _, _, _, _, _, _, _, _, _, _, rfl, _⟩ := h; rfl)
  obtain ⟨tl_lamps, h_MOST_LAMPS⟩ := T.lamps
  obtain ⟨m, rfl, m0, m1, q⟩ := h
  have nd := sc_need_most.nd
  refine ⟨_, (pss_one (ps_if (pt_not (pt_val (pc D_is_in (hr.mono (by decide)) (pa_cons (pv 0) (pa_cons pe_int (pa_cons (pe_glob (v := .int 9) (by rfl) h_MOST_LAMPS ⟨_, rfl⟩) pa_nil)))))) pss_never pss_nil)), ?_⟩
  refine ⟨_, rfl, m, 0, 9, rfl, true, ?_, iteF q⟩
  rw [decide_eq_true m0, decide_eq_true m1] <;> rfl
def sp_fewest_below : Sp := fun vs H Q _ => ∃ (wa a b : Addr) (n m : Int) (ar : Ar) (s t : S), vs = [.ref wa, .ref a, .ref b, .int m] ∧ WebAt H wa n ar ∧ Tp H a s ∧ Good n s ∧ Tp H b t ∧ Good n t ∧ 0 ≤ m ∧ m ≤ 9 ∧
  ∀ H' f, Same H H' → (okm m s → DM (Rl n ar (okm m)) s f) → (¬ okm m s → f = []) → Q (valO f t) H'
abbrev N_fewest_below : List PySem.Str := ["web", "one", "other", "most"]
theorem sc_fewest_below : FnScope N_fewest_below ["web", "one", "other", "most"] (defScope s_fewest_below) := ⟨rfl, rfl, rfl, by decide +kernel, rfl, by decide +kernel, by decide +kernel⟩
-- deps: need_two need_most below_from; slots: 0:web 1:one 2:other 3:most
theorem ok_fewest_below (F : Src K mg "fewest_below" s_fewest_below) (T : Txt mg) (D_need_two : Def P w K mg base 5 "need_two" ["web", "one", "other"] sp_need_two) (D_need_most : Def P w K mg base 2 "need_most" ["most"] sp_need_most) (D_below_from : Def P w K mg base 3 "below_from" ["web", "burning", "most"] sp_below_from) : Def P w K mg base 6 "fewest_below" ["web", "one", "other", "most"] sp_fewest_below := by
  refine mkDef F sc_fewest_below (fun _ _ _ _ _ _ us hl => match us, hl with | [_, _, _, _], _ => rfl) (fun vs H Q E h => ?_) (fun f cdv A outer s H vs Q E hr h => ?_)
  · first | (obtain ⟨_, rfl, _⟩ := h; rfl) | (obtain ⟨_, _, rfl, _⟩ := h; rfl) | (obtain ⟨_, _, _, rfl, _⟩ := h; rfl) | (obtain ⟨_, _, _, _, rfl, _⟩ := h; rfl) | (obtain ⟨_, _, _, _, _, rfl, _⟩ := h; rfl) | (obtain ⟨_, _, _, _, _, _, rfl, _⟩ := h; rfl) | (obtain ⟨_, _, _, _, _, _, _, rfl, _⟩ := h; rfl) | (obtain ⟨_, _, _, _, _, _, _, _, rfl, _⟩ := h; rfl) | (obtain ⟨_, _, _, _, _, _, _, _, _, rfl, _⟩ := h; rfl) | (obtain ⟨_, _, _, _, _, _, _, _, _, _, rfl, _⟩ := h; rfl) | (obtain ⟨_, _, _, _, _, _, _, _, _, _, _, rfl, _⟩ := h; rfl)
  obtain ⟨wa, a, b, n, m, ar, s0, t0, rfl, W, ha, gs, hb, gt, m0, m1, q⟩ := h
  have nd := sc_fewest_below.nd
  refine ⟨_, (pss_cons (ps_expr (pc D_need_two (hr.mono (by decide)) (pa_cons (pv 0) (pa_cons (pv 1) (pa_cons (pv 2) pa_nil)))))
      (pss_cons (ps_expr (pc D_need_most (hr.mono (by decide)) (pa_cons (pv 3) pa_nil)))
      (pss_one (ps_ret (pe_dget2 (hu_of hr) (pc D_below_from (hr.mono (by decide)) (pa_cons (pv 0) (pa_cons (pv 1) (pa_cons (pv 3) pa_nil)))) (pv 2) pe_non ⟨rfl, rfl, rfl, rfl⟩))))), ?_⟩
  refine ⟨_, rfl, _, rfl, _, rfl, wa, a, b, n, ar, s0, t0, rfl, W, ha, gs, hb, gt, fun H1 S1 => ?_⟩
  refine ⟨_, rfl, m, rfl, m0, m1, ?_⟩
  refine ⟨_, rfl, _, rfl, _, rfl, wa, a, n, m, ar, s0, rfl, W.to S1, ha.to S1, gs, fun H2 p f S2 np e D D' => ?_⟩
  have S12 := S1.trans S2
  exact ⟨p, rfl, isD_dT e, .ref b, rfl, _, dget_enc e (hb.to S12), q H2 f S12 D D'⟩
end
end PLW

/-! PLRq -/
set_option Elab.async false
set_option linter.all false
set_option maxRecDepth 100000
set_option maxHeartbeats 2000000
/-! A tuple of bools, made by tuple(list): its count, called as a method. -/
namespace PLR
open PySem PySem.Spec PyProof.Rows L2 PLM
def btObj (bs : List Bool) : Obj := { cls := .type "tuple", data := .seq (bs.map Value.bool).toArray }
def btO (p : Addr) (bs : List Bool) : HO := .ext fun h => h.get? p = some (btObj bs)
theorem vals_bools : ∀ {bs : List Bool} {its : List Value}, Vals (bs.map V.bl) its → its = bs.map Value.bool
  | [], _, r => by cases r; rfl
  | b :: bs, _, r => by
    cases r with
    | cons r1 r2 =>
      rw [vals_bools r2]
      cases r1
      rfl
section
variable {X : Cx}
def rTupB (K : PySem.W.Frag) : List V → Hp → VK → Prop := fun xs H Q => ∃ p bs, xs = [.ref p] ∧ SqL K H p (bs.map V.bl) ∧ ∀ l, H l = none → Q (.ref l) (upd H l (btO l bs))
theorem tupBK {K : PySem.W.Frag} (h : X.K = K := by rfl) : CallR X (.type "tuple") (rTupB K) := by
  subst h
  intro pins s σ H xs us Q I r h
  obtain ⟨p, bs, rfl, hq, q⟩ := h
  rw [Vals.ref1 r]
  obtain ⟨its, r', pl, hz⟩ := I.list hq
  have hlen := r'.length
  refine call_tuple_list pl.isList (fun h' kp => ?_) (by simp only [List.size_toArray] <;> omega)
  have I1 : Inv X pins σ H { s with heap := h' } := I.kept (t' := s.toks) kp
  have e := vals_bools r'
  subst e
  have at_ : (h'.push (btObj bs)).get? h'.objs.size = some (btObj bs) := Heap.get?_push_size _ rfl
  have I2 : Inv X pins σ (upd H h'.objs.size (btO h'.objs.size bs)) { s with heap := h'.push (btObj bs) } :=
    I1.laid (t' := s.toks) (fun b o e => Heap.get?_push_of_some _ e) (Nat.le_refl _) ⟨at_, ⟨_, at_⟩, fun h1 h2 y k => k _ y⟩
  exact ⟨.ref h'.objs.size, _, I2, rfl, q _ (I1.hok.fresh (Nat.le_refl _))⟩
theorem eqb_count {k : Bool} : ∀ bs : List Bool, (bs.map Value.bool).countP (eqb k) = bs.count k
  | [] => rfl
  | b :: bs => by
    rw [List.map_cons, List.countP_cons, List.count_cons, eqb_count bs]
    rfl
/-- t.count(k), t a tuple of bools -/
def tCntB (to te : TE) : TE := fun σ H Q => to σ H fun x H1 => ∃ p bs, x = .ref p ∧ H1 p = some (btO p bs) ∧ te σ H1 fun y H2 => ∃ k, y = .bl k ∧ H2 p = some (btO p bs) ∧ Q (.int (bs.count k : Nat)) H2
theorem pe_cntB {o e : Expr} {apos cpos : Pos} {to te : TE} (ho : PE X o to) (he : PE X e te) (m : M1 X o "count" apos e cpos) : PE X (.Call (.Attribute o "count" apos) [e] [] cpos) (tCntB to te) := by
  refine ⟨fun pins s σ H Q I h => ?_⟩
  refine wpAny_Call_method m.base m.few m.line (T := "tuple") (id := "tuple.count") F.plainAttrs_tuple F.slot_tuple_count F.type_tuple_count (thn (ho.run pins s σ H _ I h) fun u s1 ⟨x, H1, I1, rx, p, bs, ex, hp, q1⟩ => ?_)
  subst ex
  obtain rfl : u = Value.ref p := rx
  have g1 : s1.heap.get? p = some (btObj bs) := (I1.hok p _ hp).1
  refine ⟨⟨_, g1, rfl⟩, fun b z => ?_, ?_⟩
  · cases z
    exact ⟨_, g1, rfl⟩
  rw [m.trees]
  refine Calls.callWith_builtin rfl (Calls.evalArgs_plain (Calls.spliced_cons (thn (he.run pins s1 σ H1 _ I1 q1) fun iv s2 ⟨y, H2, I2, ry, k, ey, hp2, q2⟩ => Calls.spliced_nil ?_)))
  subst ey
  cases ry
  have g2 : s2.heap.get? p = some (btObj bs) := (I2.hok p _ hp2).1
  refine call_meets PySem.F.slot_tuple_count ⟨_, g2, rfl⟩ PySem.F.entry_tuple_count (PySem.F.args_tuple_count_2 _ _)
    (SeqAt.tuple_countAt p (bs.map Value.bool).toArray 0 none #[] (.bool k) (eqb k)) ⟨g2, fun y hy => ?_, ?_⟩
  · obtain ⟨b, _, rfl⟩ := List.mem_map.mp (List.mem_toArray.mp hy)
    exact SeqAt.EqAt.bool_bool b k
  · refine ⟨.int (bs.count k : Nat), H2, I2.tok _, ⟨s2.toks, ?_⟩, q2⟩
    show Value.int (((bs.map Value.bool).toArray.toList.countP (eqb k) : Nat) : Int) s2.toks = Value.int ((bs.count k : Nat) : Int) s2.toks
    rw [List.toList_toArray, eqb_count]
end
end PLR

/-! PLWg -/
set_option Elab.async false
set_option linter.all false
set_option maxRecDepth 100000
set_option maxHeartbeats 4000000
namespace PLW
open PySem PySem.Spec PyProof.Rows L2 PLM PLR
section
variable {P : Program} {w : World} {K : PySem.W.Frag} {mg : Str → Option Value} {base : Heap}
/-! ### farthest -/
def sp_farthest_in : Sp := fun vs H Q _ => ∃ (wa b : Addr) (n : Int) (ar : Ar) (s : S), vs = [.ref wa, .ref b] ∧ WebAt H wa n ar ∧ Tp H b s ∧ Good n s ∧
  ∀ H' p q m, Same H H' → H' p = some (.tup [.int m, q]) → (∀ t d, PLM.IsD (Rl n ar fun _ => True) s t d → (d : Int) ≤ m) → Q (.ref p) H'
abbrev N_farthest_in : List PySem.Str := ["web", "burning", "told", "most", "there"]
theorem sc_farthest_in : FnScope N_farthest_in ["web", "burning"] (defScope s_farthest_in) := ⟨rfl, rfl, rfl, by decide +kernel, rfl, by decide +kernel, by decide +kernel⟩
-- deps: steps_from; slots: 0:web 1:burning 2:told(cell) 3:most(cell) 4:there
theorem ok_farthest_in (F : Src K mg "farthest_in" s_farthest_in) (T : Txt mg) (D_steps_from : Def P w K mg base 3 "steps_from" ["web", "burning"] sp_steps_from) : Def P w K mg base 4 "farthest_in" ["web", "burning"] sp_farthest_in := by
  refine mkDef F sc_farthest_in (fun _ _ _ _ _ _ us hl => match us, hl with | [_, _], _ => rfl) (fun vs H Q E h => ?_) (fun f cdv A outer s H vs Q E hr h => ?_)
  · first | (obtain ⟨_, rfl, _⟩ := h; rfl) | (obtain ⟨_, _, rfl, _⟩ := h; rfl) | (obtain ⟨_, _, _, rfl, _⟩ := h; rfl) | (obtain ⟨_, _, _, _, rfl, _⟩ := h; rfl) | (obtain ⟨_, _, _, _, _, rfl, _⟩ := h; rfl) | (obtain ⟨_, _, _, _, _, _, rfl, _⟩ := h; rfl) | (obtain ⟨_, _, _, _, _, _, _, rfl, _⟩ := h; rfl) | (obtain ⟨_, _, _, _, _, _, _, _, rfl, _⟩ := h; rfl) | (obtain ⟨_, _, _, _, _, _, _, _, _, rfl, _⟩ := h; rfl) | (obtain ⟨_, _, _, _, _, _, _, _, _, _, rfl, _⟩ := h; rfl) | (obtain ⟨_, _, _, _, _, _, _, _, _, _, _, rfl, _⟩ := h; rfl)
  obtain ⟨wa, b, n, ar, s0, rfl, W, hb, g, q⟩ := h
  have gw := W.gw
  have hR : ∀ s t, Rl n ar (fun _ => True) s t → Good n t := fun s t r => r.2.1
  have nd := sc_farthest_in.nd
  refine ⟨_, (pss_cons (ps_set (i := 2) nd rfl (.inr rfl) (pc D_steps_from (hr.mono (by decide)) (pa_cons (pv 0) (pa_cons (pv 1) pa_nil))))
      (pss_cons (ps_set (i := 3) nd rfl (.inr rfl) (pe_callB (cr_maxV rfl) (by rfl) T.b_max (by decide +kernel) (pa_cons (pe_bm0 PySem.F.plainAttrs_dict PySem.F.slot_dict_values PySem.F.type_dict_values mt_valuesT (pv 2)) pa_nil)))
      (pss_one (ps_ret (pe_tup (pa_cons (pv 3) (pa_cons (pe_callB (minTK rfl (hu_of hr)) (by rfl) T.b_min (by decide +kernel) (pa_cons (pe_lock (pe_lc (own := [("there", 4)]) (g := (gName 4)) (by rfl) nd (pi_keysT (pv 2)) (blkK (own := [("there", 4)]) (N := N_farthest_in) (sc := defScope s_farthest_in) (by decide +kernel)) (fun _ _ _ _ _ => (pg_name (i := 4) nd rfl (Or.inl rfl))) (fun _ _ _ _ _ => pts_one (pt_cmpR op_eq (pe_dget (hu_of hr) (pv 2) (pv 4) (fun _ _ => rfl)) (pv 3) (nomark _))) (fun _ _ _ _ _ => (pv 4)))) pa_nil)) pa_nil))))))), ?_⟩
  refine ⟨_, rfl, _, rfl, wa, b, n, ar, s0, rfl, W, hb, g, fun H1 dd f S1 ndd hd D => ?_⟩
  have few := dm_few gw.n7 g hR D
  have ne : f.map (·.2) ≠ [] := fun e => by
    have h0 : (s0, ((0 : Nat) : Int)) ∈ f := (D.all s0 _).mpr ⟨0, rfl, IsD.zero.mpr rfl⟩
    have := List.mem_map_of_mem (f := (·.2)) h0
    rw [e] at this
    cases this
  refine ⟨.ref dd, rfl, .inr (.inr (.inl ⟨rfl, .inr ⟨_, hd⟩⟩)), dd, _, rfl, rfl, hd, fun pv npv => ?_⟩
  have S2 := S1.new (o := valsO pv dd) npv
  have hd2 := up (u := valsO pv dd) hd npv
  refine ⟨pv, dd, _, _, rfl, upd_same, hd2, enc_vals f, ne, fun m hm hmax => ?_⟩
  have SL := fun od => S2.put (o := .frz od (.dT (enc f))) ndd
  refine ⟨.int m, rfl, dd, _, hd2, trivial, fun od => ⟨.ref dd, rfl, dd, od, _, rfl, upd_same, fun D2 hD2 => ?_⟩⟩
  have hDd : dd ≠ D2 := fun e => by rw [← e, upd_same] at hD2; cases hD2
  have frz := fun u => up (u := u) (show upd (upd H1 pv (valsO pv dd)) dd (.frz od (.dT (enc f))) dd = some _ from upd_same) hD2
  refine lc_it walk_keysT (fun i H' => ∃ acc : List (Addr × List Int), H' = upd (upd (upd H1 pv (valsO pv dd)) dd (.frz od (.dT (enc f)))) D2 (.lst (acc.map fun p => V.ref p.1)) ∧
      (∀ p ∈ acc, Tp (upd (upd H1 pv (valsO pv dd)) dd (.frz od (.dT (enc f)))) p.1 p.2) ∧ acc.length ≤ i ∧ ∀ j t, j < i → f[j]? = some (t, m) → acc ≠ [])
    ⟨[], rfl, fun p hp => (by cases hp), Nat.le_refl _, fun j t hj => absurd hj (Nat.not_lt_zero _)⟩
    (fun i H' _ ⟨acc, e, _⟩ => by rw [e]; exact frz _) (fun i x H3 H4 hi hP hY => ?_) (fun H3 hP => ?_)
  · obtain ⟨acc, rfl, hacc, hlen, hne⟩ := hP
    obtain ⟨rfl, k, v, qa, e1, rfl, e3⟩ := hY
    rw [length_enc] at hi
    have ef := List.getElem?_eq_getElem hi
    have e1' : (enc f)[i]? = some (ky f[i].1, V.int f[i].2) := by
      show (f.map _)[i]? = _
      rw [List.getElem?_map, ef]
      rfl
    rw [e1'] at e1
    obtain ⟨rfl, rfl⟩ : ky f[i].1 = k ∧ V.int f[i].2 = v := by cases e1; exact ⟨rfl, rfl⟩
    have tq1 : Tp (upd (upd (upd H1 pv (valsO pv dd)) dd (.frz od (.dT (enc f)))) D2 (.lst (acc.map fun p => V.ref p.1))) qa f[i].1 := by
      rw [ky_kV] at e3
      exact e3
    have nq : qa ≠ D2 := fun e => by
      rw [e] at tq1
      have := tq1
      unfold Tp at this
      rw [upd_same] at this
      cases this
    have tq2 : Tp (upd (upd H1 pv (valsO pv dd)) dd (.frz od (.dT (enc f)))) qa f[i].1 := by
      have := tq1
      unfold Tp at this
      rw [upd_ne nq] at this
      exact this
    have mem : (f[i].1, f[i].2) ∈ f := List.getElem_mem hi
    have dg : DGet (upd (upd (upd H1 pv (valsO pv dd)) dd (.frz od (.dT (enc f)))) D2 (.lst (acc.map fun p => V.ref p.1))) dd (.ref qa) (some (.int f[i].2)) :=
      .inr ⟨enc f, ky f[i].1, qa, .inr ⟨od, frz _⟩, rfl, e3, by rw [val_enc, (fget_some D.nd).mpr mem] <;> rfl⟩
    refine ⟨wipe1, .ref dd, rfl, .ref qa, rfl, dd, _, rfl, dg, .int m, rfl, rfl, _, rfl, ite2 (fun e => ?_) (fun e => ?_)⟩
    · have em : f[i].2 = m := V.int.inj (of_decide_eq_true e)
      refine ⟨.ref qa, rfl, _, upd_same, by rw [List.length_map]; exact small1000 (by omega), acc ++ [(qa, f[i].1)], by rw [upd_upd]; simp, fun p hp => ?_, by simp; omega, fun j t _ _ => by simp⟩
      rcases List.mem_append.mp hp with h | h
      · exact hacc p h
      · rw [List.mem_singleton.mp h]
        exact tq2
    · refine ⟨acc, rfl, hacc, by omega, fun j t hj hf => ?_⟩
      by_cases hji : j = i
      · subst hji
        rw [ef] at hf
        have : f[j].2 = m := by rw [Option.some.inj hf]
        exact absurd (decide_eq_true (congrArg V.int this)) e
      · exact hne j t (by omega) hf
  · obtain ⟨acc, rfl, hacc, hlen, hne⟩ := hP
    rw [length_enc] at hlen hne
    refine ⟨frz _, ?_⟩
    have nD2 : H D2 = none := Same.free0 (SL od) hD2
    have sF := ((SL od).new (o := .lst (acc.map fun p => V.ref p.1)) hD2).put (o := .dT (enc f)) ndd
    have nem : acc ≠ [] := by
      obtain ⟨e, he, em⟩ := List.mem_map.mp hm
      obtain ⟨j, hj, ej⟩ := List.mem_iff_getElem.mp he
      refine hne j e.1 hj ?_
      rw [List.getElem?_eq_getElem hj, ej, ← em]
    refine ⟨D2, acc, rfl, lq (by rw [upd_ne hDd.symm]; exact upd_same), fun p hp => ?_, nem, fun p hp => ⟨by show 2 ≤ sizeLine; decide, fun P nP => ?_⟩⟩
    · have h1 := (hacc p hp).to ((Same.refl _).new (o := .lst (acc.map fun p => V.ref p.1)) hD2)
      exact (h1.put (frz _)).sq
    · refine q _ P (.ref p.1) m (sF.new nP) upd_same fun t d hd' => ?_
      have := (D.all t d).mpr ⟨d, rfl, hd'⟩
      exact hmax _ (List.mem_map_of_mem (f := (·.2)) this)
def sp_farthest : Sp := sp_farthest_in
abbrev N_farthest : List PySem.Str := ["web", "burning"]
theorem sc_farthest : FnScope N_farthest ["web", "burning"] (defScope s_farthest) := ⟨rfl, rfl, rfl, by decide +kernel, rfl, by decide +kernel, by decide +kernel⟩
-- deps: need_both farthest_in; slots: 0:web 1:burning
theorem ok_farthest (F : Src K mg "farthest" s_farthest) (T : Txt mg) (D_need_both : Def P w K mg base 4 "need_both" ["web", "burning"] sp_need_both) (D_farthest_in : Def P w K mg base 4 "farthest_in" ["web", "burning"] sp_farthest_in) : Def P w K mg base 5 "farthest" ["web", "burning"] sp_farthest := by
  refine mkDef F sc_farthest (fun _ _ _ _ _ _ us hl => match us, hl with | [_, _], _ => rfl) (fun vs H Q E h => ?_) (fun f cdv A outer s H vs Q E hr h => ?_)
  · first | (obtain ⟨_, rfl, _⟩ := h; rfl) | (obtain ⟨_, _, rfl, _⟩ := h; rfl) | (obtain ⟨_, _, _, rfl, _⟩ := h; rfl) | (obtain ⟨_, _, _, _, rfl, _⟩ := h; rfl) | (obtain ⟨_, _, _, _, _, rfl, _⟩ := h; rfl) | (obtain ⟨_, _, _, _, _, _, rfl, _⟩ := h; rfl) | (obtain ⟨_, _, _, _, _, _, _, rfl, _⟩ := h; rfl) | (obtain ⟨_, _, _, _, _, _, _, _, rfl, _⟩ := h; rfl) | (obtain ⟨_, _, _, _, _, _, _, _, _, rfl, _⟩ := h; rfl) | (obtain ⟨_, _, _, _, _, _, _, _, _, _, rfl, _⟩ := h; rfl) | (obtain ⟨_, _, _, _, _, _, _, _, _, _, _, rfl, _⟩ := h; rfl)
  obtain ⟨wa, b, n, ar, s0, rfl, W, hb, g, q⟩ := h
  have nd := sc_farthest.nd
  refine ⟨_, (pss_cons (ps_expr (pc D_need_both (hr.mono (by decide)) (pa_cons (pv 0) (pa_cons (pv 1) pa_nil))))
      (pss_one (ps_ret (pc D_farthest_in (hr.mono (by decide)) (pa_cons (pv 0) (pa_cons (pv 1) pa_nil)))))), ?_⟩
  refine ⟨_, rfl, _, rfl, wa, b, n, ar, s0, rfl, W, hb, g, fun H1 S1 => ?_⟩
  exact ⟨_, rfl, _, rfl, wa, b, n, ar, s0, rfl, W.to S1, hb.to S1, g, fun H2 p q2 m S2 e hm => q H2 p q2 m (S1.trans S2) e hm⟩
end
end PLW

/-! PLWh -/
set_option Elab.async false
set_option linter.all false
set_option maxRecDepth 100000
set_option maxHeartbeats 4000000
namespace PLW
open PySem PySem.Spec PyProof.Rows L2 PLM PLR
section
variable {P : Program} {w : World} {K : PySem.W.Frag} {mg : Str → Option Value} {base : Heap}
/-! ### deed_counts -/
def sp_deed_counts : Sp := fun vs H Q _ => ∃ (wa b : Addr) (n : Int) (ar : Ar) (s : S), vs = [.ref wa, .ref b] ∧ WebAt H wa n ar ∧ Tp H b s ∧ Good n s ∧
  ∀ H' p cs, Same H H' → Tp H' p cs → (∀ t d, PLM.IsD (Rl n ar fun _ => True) s t d → ∃ c, cs[d]? = some c ∧ 0 < c) → Q (.ref p) H'
abbrev N_deed_counts : List PySem.Str := ["web", "burning", "told", "many"]
theorem sc_deed_counts : FnScope N_deed_counts ["web", "burning"] (defScope s_deed_counts) := ⟨rfl, rfl, rfl, by decide +kernel, rfl, by decide +kernel, by decide +kernel⟩
-- deps: need_both steps_from; slots: 0:web 1:burning 2:told(cell) 3:many
theorem ok_deed_counts (F : Src K mg "deed_counts" s_deed_counts) (T : Txt mg) (D_need_both : Def P w K mg base 4 "need_both" ["web", "burning"] sp_need_both) (D_steps_from : Def P w K mg base 3 "steps_from" ["web", "burning"] sp_steps_from) : Def P w K mg base 5 "deed_counts" ["web", "burning"] sp_deed_counts := by
  refine mkDef F sc_deed_counts (fun _ _ _ _ _ _ us hl => match us, hl with | [_, _], _ => rfl) (fun vs H Q E h => ?_) (fun f cdv A outer s H vs Q E hr h => ?_)
  · first | (obtain ⟨_, rfl, _⟩ := h; rfl) | (obtain ⟨_, _, rfl, _⟩ := h; rfl) | (obtain ⟨_, _, _, rfl, _⟩ := h; rfl) | (obtain ⟨_, _, _, _, rfl, _⟩ := h; rfl) | (obtain ⟨_, _, _, _, _, rfl, _⟩ := h; rfl) | (obtain ⟨_, _, _, _, _, _, rfl, _⟩ := h; rfl) | (obtain ⟨_, _, _, _, _, _, _, rfl, _⟩ := h; rfl) | (obtain ⟨_, _, _, _, _, _, _, _, rfl, _⟩ := h; rfl) | (obtain ⟨_, _, _, _, _, _, _, _, _, rfl, _⟩ := h; rfl) | (obtain ⟨_, _, _, _, _, _, _, _, _, _, rfl, _⟩ := h; rfl) | (obtain ⟨_, _, _, _, _, _, _, _, _, _, _, rfl, _⟩ := h; rfl)
  obtain ⟨wa, b, n, ar, s0, rfl, W, hb, g, q⟩ := h
  have gw := W.gw
  have hR : ∀ s t, Rl n ar (fun _ => True) s t → Good n t := fun s t r => r.2.1
  have nd := sc_deed_counts.nd
  refine ⟨_, (pss_cons (ps_expr (pc D_need_both (hr.mono (by decide)) (pa_cons (pv 0) (pa_cons (pv 1) pa_nil))))
      (pss_cons (ps_set (i := 2) nd rfl (.inr rfl) (pe_callTy (cr_listV rfl) (by rfl) T.b_list (by decide +kernel) (pa_cons (pe_bm0 PySem.F.plainAttrs_dict PySem.F.slot_dict_values PySem.F.type_dict_values mt_valuesT (pc D_steps_from (hr.mono (by decide)) (pa_cons (pv 0) (pa_cons (pv 1) pa_nil)))) pa_nil)))
      (pss_one (ps_ret (pe_callTy tupleK (by rfl) T.b_tuple (by decide +kernel) (pa_cons (pe_lc (own := [("many", 3)]) (g := (gName 3)) (by rfl) nd (pi_range1 (by rfl) T.b_range (pa_cons (pe_op op_add (pe_callB (maxK rfl) (by rfl) T.b_max (by decide +kernel) (pa_cons (pv 2) pa_nil)) pe_int) pa_nil)) (blkK (own := [("many", 3)]) (N := N_deed_counts) (sc := defScope s_deed_counts) (by decide +kernel)) (fun _ _ _ _ _ => (pg_name (i := 3) nd rfl (Or.inl rfl))) (fun _ _ _ _ _ => pts_nil) (fun _ _ _ _ _ => (pe_bmK PySem.F.plainAttrs_list PySem.F.slot_list_count PySem.F.type_list_count lcountK (pv 2) (pa_cons (pv 3) pa_nil)))) pa_nil)))))), ?_⟩
  refine ⟨_, rfl, _, rfl, wa, b, n, ar, s0, rfl, W, hb, g, fun H0 S0 => ?_⟩
  refine ⟨_, rfl, _, rfl, wa, b, n, ar, s0, rfl, W.to S0, hb.to S0, g, fun H1 dd f S1 ndd hd D => ?_⟩
  have few := dm_few gw.n7 g hR D
  have S1 := S0.trans S1
  refine ⟨.inr (.inr (.inl ⟨rfl, .inr ⟨_, hd⟩⟩)), dd, _, rfl, rfl, hd, fun pv npv => ?_⟩
  have S2 := S1.new (o := valsO pv dd) npv
  refine ⟨pv, dd, _, rfl, upd_same, up hd npv, fun l nl => ?_⟩
  rw [enc_vals]
  have S3 := S2.new (o := .lst ((f.map (·.2)).map V.int)) nl
  have m0 : (0 : Int) ∈ f.map (·.2) := by
    have h0 : (s0, ((0 : Nat) : Int)) ∈ f := (D.all s0 _).mpr ⟨0, rfl, IsD.zero.mpr rfl⟩
    exact List.mem_map_of_mem (f := (·.2)) h0
  refine ⟨.ref l, rfl, l, _, rfl, lq upd_same, List.length_pos_of_mem m0, fun m hm hmax => ⟨m, 1, rfl, rfl, _, rfl, ?_, ?_, fun C nC => ?_⟩⟩
  · have := hmax 0 m0
    omega
  · obtain ⟨e, he, em⟩ := List.mem_map.mp hm
    obtain ⟨d, ed, hd'⟩ := (D.all e.1 e.2).mp he
    have := isD_few gw.n7 g hR hd'
    omega
  have mge := hmax 0 m0
  have mle : m ≤ 127 := by
    obtain ⟨e, he, em⟩ := List.mem_map.mp hm
    obtain ⟨d, ed, hd'⟩ := (D.all e.1 e.2).mp he
    have := isD_few gw.n7 g hR hd'
    omega
  refine lc_range (fun i H' => H' = upd (upd (upd H1 pv (valsO pv dd)) l (.lst ((f.map (·.2)).map V.int))) C (.lst (((List.range i).map fun (j : Nat) => (((f.map (·.2)).count (j : Int) : Nat) : Int)).map V.int))) rfl (fun i H2 hi hP => ?_) (fun H2 hP => ?_)
  · subst hP
    have hl := up (u := .lst (((List.range i).map fun (j : Nat) => (((f.map (·.2)).count (j : Int) : Nat) : Int)).map V.int)) (show upd (upd H1 pv (valsO pv dd)) l (.lst ((f.map (·.2)).map V.int)) l = some _ from upd_same) nC
    refine ⟨wipe1, .ref l, rfl, .inl ⟨rfl, _, lq hl⟩, _, rfl, l, _, _, rfl, rfl, lq hl, _, upd_same, by rw [List.length_map, List.length_map, List.length_range]; exact small1000 (by omega), ?_⟩
    rw [upd_upd, map_snoc, List.range_succ, List.map_append (l₂ := [i]), Int.zero_add]
    rfl
  · subst hP
    refine ⟨C, _, rfl, .inl ⟨lq upd_same, fun p np => ?_⟩⟩
    refine q _ p _ ((S3.new nC).new np) upd_same fun t d hd' => ?_
    have mem := (D.all t d).mpr ⟨d, rfl, hd'⟩
    have dm := hmax d (List.mem_map_of_mem (f := (·.2)) mem)
    refine ⟨((f.map (·.2)).count (d : Int) : Nat), ?_, ?_⟩
    · rw [List.getElem?_map, List.getElem?_range (by omega)] <;> rfl
    · have := List.count_pos_iff.mpr (List.mem_map_of_mem (f := (·.2)) mem)
      exact Int.natCast_pos.mpr this
/-! ### word_sorts -/
def sp_word_sorts : Sp := fun vs H Q _ => ∃ (wa b v : Addr) (n : Int) (ar : Ar) (s : S) (t : S) (wd : List Int), vs = [.ref wa, .ref b, .ref v] ∧ WebAt H wa n ar ∧ Tp H b s ∧ Good n s ∧ Tp H v wd ∧ wd.length ≤ 200 ∧ Wd ar (fun _ => True) s t wd ∧
  ∀ H' p, Same H H' → H' p = some (btO p (lits s wd)) → Q (.ref p) H'
abbrev N_word_sorts : List PySem.Str := ["web", "burning", "word", "there", "here", "lamp"]
theorem sc_word_sorts : FnScope N_word_sorts ["web", "burning", "word"] (defScope s_word_sorts) := ⟨rfl, rfl, rfl, by decide +kernel, rfl, by decide +kernel, by decide +kernel⟩
-- deps: line_of; slots: 0:web 1:burning 2:word 3:there 4:here 5:lamp
theorem ok_word_sorts (F : Src K mg "word_sorts" s_word_sorts) (T : Txt mg) (D_line_of : Def P w K mg base 5 "line_of" ["web", "burning", "word"] sp_line_of) : Def P w K mg base 6 "word_sorts" ["web", "burning", "word"] sp_word_sorts := by
  refine mkDef F sc_word_sorts (fun _ _ _ _ _ _ us hl => match us, hl with | [_, _, _], _ => rfl) (fun vs H Q E h => ?_) (fun f cdv A outer s H vs Q E hr h => ?_)
  · first | (obtain ⟨_, rfl, _⟩ := h; rfl) | (obtain ⟨_, _, rfl, _⟩ := h; rfl) | (obtain ⟨_, _, _, rfl, _⟩ := h; rfl) | (obtain ⟨_, _, _, _, rfl, _⟩ := h; rfl) | (obtain ⟨_, _, _, _, _, rfl, _⟩ := h; rfl) | (obtain ⟨_, _, _, _, _, _, rfl, _⟩ := h; rfl) | (obtain ⟨_, _, _, _, _, _, _, rfl, _⟩ := h; rfl) | (obtain ⟨_, _, _, _, _, _, _, _, rfl, _⟩ := h; rfl) | (obtain ⟨_, _, _, _, _, _, _, _, _, rfl, _⟩ := h; rfl) | (obtain ⟨_, _, _, _, _, _, _, _, _, _, rfl, _⟩ := h; rfl) | (obtain ⟨_, _, _, _, _, _, _, _, _, _, _, rfl, _⟩ := h; rfl)
  obtain ⟨wa, b, v, n, ar, s0, t0, wd, rfl, W, hb, g, hv, len, hw, q⟩ := h
  have nd := sc_word_sorts.nd
  refine ⟨_, (pss_cons (ps_set (i := 3) nd rfl (.inl rfl) (pc D_line_of (hr.mono (by decide)) (pa_cons (pv 0) (pa_cons (pv 1) (pa_cons (pv 2) pa_nil)))))
      (pss_one (ps_ret (pe_callTy tupBK (by rfl) T.b_tuple (by decide +kernel) (pa_cons (pe_lc (own := [("here", 4), ("lamp", 5)]) (g := (gTup K 2 (gCons (gName 4) (gCons (gName 5) gNil)))) (by rfl) nd (pi_zipMK (by rfl) T.b_zip (pa_cons (pv 3) (pa_cons (pv 2) pa_nil))) (blkK (own := [("here", 4), ("lamp", 5)]) (N := N_word_sorts) (sc := defScope s_word_sorts) (by decide +kernel)) (fun _ _ _ _ _ => (pg_tup rfl (pgs_cons (pg_name (i := 4) nd rfl (Or.inl rfl)) (pgs_cons (pg_name (i := 5) nd rfl (Or.inl rfl)) pgs_nil)))) (fun _ _ _ _ _ => pts_nil) (fun _ _ _ _ _ => (pe_cmpR op_notInK (pv 5) (pv 4) (by rfl)))) pa_nil))))), ?_⟩
  refine ⟨_, rfl, _, rfl, _, rfl, wa, b, v, n, ar, s0, t0, wd, rfl, W, hb, g, hv, len, hw, fun H1 p as S1 np hp st => ?_⟩
  have hlen : (wd.map V.int).length ≤ (as.map V.ref).length := by rw [List.length_map, List.length_map, st.1, length_sline]; omega
  refine ⟨.ref p, rfl, .ref v, rfl, p, v, _, _, rfl, lq hp, (hv.to S1).sq, fun C nC => ?_⟩
  refine lc_it (walk_zipM hlen) (fun i H' => Same H1 H' ∧ H' C = some (.lst ((lits s0 (wd.take i)).map V.bl)))
    ⟨(Same.refl H1).new nC, upd_same⟩ (fun i H' _ hP => ⟨lq (hP.1 _ _ hp), ((hv.to S1).to hP.1).sq⟩) (fun i x H2 H3 hi hP hY => ?_) (fun H2 hP => ?_)
  · obtain ⟨S2, hC⟩ := hP
    obtain ⟨Tn, x, y, rfl, nT, rfl, ex, ey⟩ := hY
    obtain ⟨a, u, rfl, ha, hu, ta⟩ := (st.to S2).get ex
    obtain ⟨k, rfl, hk, km⟩ := get_ints ey
    have hi' : i < wd.length := (List.getElem?_eq_some_iff.mp hk).1
    have eu : u = runs s0 (wd.take i) := by
      have := sline_take (s := s0) (w := wd) (i := i) (by omega)
      rw [hu] at this
      exact Option.some.inj this
    subst eu
    have ta2 := ta.to ((Same.refl H2).new (o := .tup [.ref a, .int k]) nT)
    refine ⟨Tn, _, rfl, tq upd_same, rfl, .ref a, [.int k], rfl, .int k, [], rfl, rfl, rfl, ?_⟩
    refine ⟨.int k, rfl, .ref a, rfl, a, _, rfl, .inr ta2.sq, rfl, flat_ints _, _, up hC nT, ?_, ?_⟩
    · rw [List.length_map, length_lits, List.length_take]
      exact small1000 (by omega)
    rw [if_pos rfl, inV_ints]
    refine ⟨(S2.new nT).put nC, ?_⟩
    rw [upd_same, take_snoc hk, lits_snoc]
    simp
  · obtain ⟨S2, hC⟩ := hP
    rw [List.length_map, List.take_length] at hC
    exact ⟨C, _, rfl, lq hC, fun l nl => q _ l ((S1.trans S2).new nl) upd_same⟩
/-! ### burn_times -/
def bt (s : S) (wd : List Int) (j : Int) : Nat := ((sline s wd).filter fun u => decide (j ∈ u)).length
def sp_burn_times : Sp := fun vs H Q _ => ∃ (wa b v : Addr) (n : Int) (ar : Ar) (s : S) (t : S) (wd : List Int), vs = [.ref wa, .ref b, .ref v] ∧ WebAt H wa n ar ∧ Tp H b s ∧ Good n s ∧ Tp H v wd ∧ wd.length ≤ 200 ∧ Wd ar (fun _ => True) s t wd ∧
  ∀ H' p, Same H H' → Tp H' p ((List.range n.toNat).map fun (j : Nat) => ((bt s wd (j : Int) : Nat) : Int)) → Q (.ref p) H'
abbrev sin_burn_times : Scope := { kind := .function, names := [(".0", .local), ("lamp", .cell), ("len", .globalImplicit), ("there", .cell)], isGenerator := false, isCoroutine := false }
abbrev N_burn_times : List PySem.Str := ["web", "burning", "word", "there", "here", "lamp"]
theorem sc_burn_times : FnScope N_burn_times ["web", "burning", "word"] (defScope s_burn_times) := ⟨rfl, rfl, rfl, by decide +kernel, rfl, by decide +kernel, by decide +kernel⟩
-- deps: line_of; slots: 0:web 1:burning 2:word 3:there(cell) 4:here 5:lamp
theorem ok_burn_times (F : Src K mg "burn_times" s_burn_times) (T : Txt mg) (D_line_of : Def P w K mg base 5 "line_of" ["web", "burning", "word"] sp_line_of) : Def P w K mg base 6 "burn_times" ["web", "burning", "word"] sp_burn_times := by
  refine mkDef F sc_burn_times (fun _ _ _ _ _ _ us hl => match us, hl with | [_, _, _], _ => rfl) (fun vs H Q E h => ?_) (fun f cdv A outer s H vs Q E hr h => ?_)
  · first | (obtain ⟨_, rfl, _⟩ := h; rfl) | (obtain ⟨_, _, rfl, _⟩ := h; rfl) | (obtain ⟨_, _, _, rfl, _⟩ := h; rfl) | (obtain ⟨_, _, _, _, rfl, _⟩ := h; rfl) | (obtain ⟨_, _, _, _, _, rfl, _⟩ := h; rfl) | (obtain ⟨_, _, _, _, _, _, rfl, _⟩ := h; rfl) | (obtain ⟨_, _, _, _, _, _, _, rfl, _⟩ := h; rfl) | (obtain ⟨_, _, _, _, _, _, _, _, rfl, _⟩ := h; rfl) | (obtain ⟨_, _, _, _, _, _, _, _, _, rfl, _⟩ := h; rfl) | (obtain ⟨_, _, _, _, _, _, _, _, _, _, rfl, _⟩ := h; rfl) | (obtain ⟨_, _, _, _, _, _, _, _, _, _, _, rfl, _⟩ := h; rfl)
  obtain ⟨wa, b, v, n, ar, s0, t0, wd, rfl, W, hb, g, hv, len, hw, q⟩ := h
  obtain ⟨tw, aw, h1, h2, h3⟩ := W.ex
  have gw := W.gw
  have nd := sc_burn_times.nd
  refine ⟨_, (pss_cons (ps_set (i := 3) nd rfl (.inr rfl) (pc D_line_of (hr.mono (by decide)) (pa_cons (pv 0) (pa_cons (pv 1) (pa_cons (pv 2) pa_nil)))))
      (pss_one (ps_ret (pe_callTy tupleK (by rfl) T.b_tuple (by decide +kernel) (pa_cons (pe_lc (own := [("lamp", 5)]) (g := (gName 5)) (by rfl) nd (pi_range1 (by rfl) T.b_range (pa_cons (pe_ix ix_tupK (pv 0) pe_int (fun _ _ => rfl)) pa_nil)) (blkK (own := [("lamp", 5)]) (N := N_burn_times) (sc := defScope s_burn_times) (by decide +kernel)) (fun _ _ _ _ _ => (pg_name (i := 5) nd rfl (Or.inr rfl))) (fun _ _ _ _ _ => pts_nil) (fun _ _ _ _ _ => (pe_callB lenK (by rfl) T.b_len (by decide +kernel) (pa_cons (pe_lc (own := [("here", 4)]) (g := (gName 4)) (by rfl) nd (pi_listK (pv 3)) (blkK (own := [("here", 4)]) (N := N_burn_times) (sc := sin_burn_times) (by decide +kernel)) (fun _ _ _ _ _ => (pg_name (i := 4) nd rfl (Or.inl rfl))) (fun _ _ _ _ _ => pts_one (pt_cmpR op_inK (pv 5) (pv 4) (by rfl))) (fun _ _ _ _ _ => (pv 4))) pa_nil)))) pa_nil))))), ?_⟩
  refine ⟨_, rfl, _, rfl, _, rfl, wa, b, v, n, ar, s0, t0, wd, rfl, W, hb, g, hv, len, hw, fun H1 p as S1 np hp st => ?_⟩
  have n7 := gw.n7
  have n1 := gw.n1
  have als : as.length ≤ 201 := by rw [st.1, length_sline]; omega
  refine ⟨.ref wa, rfl, wa, _, 0, .int n, rfl, rfl, tq (S1 _ _ h1), atI_nat (j := 0) rfl, n, rfl, by omega, by omega, fun C nC => ?_⟩
  refine lc_range (fun i H' => Same H1 H' ∧ H' C = some (.lst (((List.range i).map fun (j : Nat) => ((bt s0 wd (j : Int) : Nat) : Int)).map V.int))) ⟨(Same.refl H1).new nC, upd_same⟩ (fun i H2 hi hP => ?_) (fun H2 hP => ?_)
  · obtain ⟨S2, hC⟩ := hP
    refine ⟨wipe1, .ref p, rfl, p, rfl, ⟨_, lq (S2 _ _ hp)⟩, fun C2 nC2 => ?_⟩
    refine lc_list (K := K) (a := p) (xs := as.map V.ref) (fun j H' => ∃ acc : List V, H' = upd H2 C2 (.lst acc) ∧ acc.length = (((sline s0 wd).take j).filter fun u => decide ((i : Int) ∈ u)).length)
      ⟨[], rfl, rfl⟩ (fun j H' _ ⟨acc, e, _⟩ => by rw [e]; exact lq (up (S2 _ _ hp) nC2)) (fun j x H3 hx hP => ?_) (fun H3 hP => ?_)
    · obtain ⟨acc, rfl, al⟩ := hP
      obtain ⟨a, u, rfl, ha, hu, ta⟩ := (st.to (S2.trans ((Same.refl H2).new (o := .lst acc) nC2))).get hx
      have fl := filter_snoc (p := fun u : S => decide ((i : Int) ∈ u)) hu
      refine ⟨wipe1, .int (0 + i), rfl, .ref a, rfl, a, _, rfl, .inr ta.sq, rfl, flat_ints _, _, rfl, ?_⟩
      rw [if_neg Bool.false_ne_true, inV_ints, Int.zero_add]
      by_cases c : (i : Int) ∈ u
      · rw [decide_eq_true c]
        have l1 := List.length_filter_le (fun u : S => decide ((i : Int) ∈ u)) ((sline s0 wd).take j)
        rw [List.length_take, length_sline] at l1
        refine iteT ⟨.ref a, rfl, acc, upd_same, small1000 (by omega), acc ++ [.ref a], upd_upd, ?_⟩
        rw [fl]
        simp [c, al]
      · rw [decide_eq_false c]
        refine iteF ⟨acc, rfl, ?_⟩
        rw [fl]
        simp [c, al]
    · obtain ⟨acc, rfl, al⟩ := hP
      rw [List.length_map, st.1, List.take_length] at al
      refine ⟨C2, _, rfl, .inl (lq upd_same), _, up hC nC2, by rw [List.length_map, List.length_map, List.length_range]; exact small1000 (by omega), (S2.new nC2).put nC, ?_⟩
      rw [upd_same, map_snoc, List.range_succ, List.map_append (l₂ := [i]), al]
      rfl
  · obtain ⟨S2, hC⟩ := hP
    exact ⟨C, _, rfl, .inl ⟨lq hC, fun l nl => q _ l ((S1.trans S2).new nl) upd_same⟩⟩
/-! ### sort_counts -/
abbrev Rc (n : Int) (ar : Ar) (s t : S) : Prop := ∃ m, Pth (Rl n ar fun _ => True) m s t
def sp_sort_counts : Sp := fun vs H Q _ => ∃ (wa a b : Addr) (n : Int) (ar : Ar) (s t : S), vs = [.ref wa, .ref a, .ref b] ∧ WebAt H wa n ar ∧ Tp H a s ∧ Good n s ∧ Tp H b t ∧ Good n t ∧
  ∀ H' v, Same H H' → (¬ Rc n ar s t → v = .non) → (∀ d : Nat, PLM.IsD (Rl n ar fun _ => True) s t d → ∃ p, v = .ref p ∧ H' p = some (.tup [.int (((d : Int) + ((t.length : Int) - s.length)).fdiv 2), .int (((d : Int) - ((t.length : Int) - s.length)).fdiv 2)])) → Q v H'
abbrev N_sort_counts : List PySem.Str := ["web", "one", "other", "whole", "more"]
theorem sc_sort_counts : FnScope N_sort_counts ["web", "one", "other"] (defScope s_sort_counts) := ⟨rfl, rfl, rfl, by decide +kernel, rfl, by decide +kernel, by decide +kernel⟩
-- deps: need_two comes_in steps_from; slots: 0:web 1:one 2:other 3:whole 4:more
theorem ok_sort_counts (F : Src K mg "sort_counts" s_sort_counts) (T : Txt mg) (D_need_two : Def P w K mg base 5 "need_two" ["web", "one", "other"] sp_need_two) (D_comes_in : Def P w K mg base 2 "comes_in" ["web", "one", "other"] sp_comes_in) (D_steps_from : Def P w K mg base 3 "steps_from" ["web", "burning"] sp_steps_from) : Def P w K mg base 6 "sort_counts" ["web", "one", "other"] sp_sort_counts := by
  refine mkDef F sc_sort_counts (fun _ _ _ _ _ _ us hl => match us, hl with | [_, _, _], _ => rfl) (fun vs H Q E h => ?_) (fun f cdv A outer s H vs Q E hr h => ?_)
  · first | (obtain ⟨_, rfl, _⟩ := h; rfl) | (obtain ⟨_, _, rfl, _⟩ := h; rfl) | (obtain ⟨_, _, _, rfl, _⟩ := h; rfl) | (obtain ⟨_, _, _, _, rfl, _⟩ := h; rfl) | (obtain ⟨_, _, _, _, _, rfl, _⟩ := h; rfl) | (obtain ⟨_, _, _, _, _, _, rfl, _⟩ := h; rfl) | (obtain ⟨_, _, _, _, _, _, _, rfl, _⟩ := h; rfl) | (obtain ⟨_, _, _, _, _, _, _, _, rfl, _⟩ := h; rfl) | (obtain ⟨_, _, _, _, _, _, _, _, _, rfl, _⟩ := h; rfl) | (obtain ⟨_, _, _, _, _, _, _, _, _, _, rfl, _⟩ := h; rfl) | (obtain ⟨_, _, _, _, _, _, _, _, _, _, _, rfl, _⟩ := h; rfl)
  obtain ⟨wa, a, b, n, ar, s0, t0, rfl, W, ha, gs, hb, gt, q⟩ := h
  have nd := sc_sort_counts.nd
  refine ⟨_, (pss_cons (ps_expr (pc D_need_two (hr.mono (by decide)) (pa_cons (pv 0) (pa_cons (pv 1) (pa_cons (pv 2) pa_nil)))))
      (pss_cons (ps_if (pt_not (pt_val (pc D_comes_in (hr.mono (by decide)) (pa_cons (pv 0) (pa_cons (pv 1) (pa_cons (pv 2) pa_nil)))))) (pss_one (ps_ret pe_non)) pss_nil)
      (pss_cons (ps_par (i := 3) (j := 4) (by rfl) nd rfl rfl (by decide) rfl rfl (pa_cons (pe_dget (hu_of hr) (pc D_steps_from (hr.mono (by decide)) (pa_cons (pv 0) (pa_cons (pv 1) pa_nil))) (pv 2) (fun _ _ => rfl)) (pa_cons (pe_op op_sub (pe_callB lenK (by rfl) T.b_len (by decide +kernel) (pa_cons (pv 2) pa_nil)) (pe_callB lenK (by rfl) T.b_len (by decide +kernel) (pa_cons (pv 1) pa_nil))) pa_nil)) (by rfl))
      (pss_one (ps_ret (pe_tup (pa_cons (pe_op op_fdivN (pe_op op_add (pv 3) (pv 4)) pe_int) (pa_cons (pe_op op_fdivN (pe_op op_sub (pv 3) (pv 4)) pe_int) pa_nil)))))))), ?_⟩
  refine ⟨_, rfl, _, rfl, _, rfl, wa, a, b, n, ar, s0, t0, rfl, W, ha, gs, hb, gt, fun H1 S1 => ?_⟩
  refine ⟨_, rfl, _, rfl, _, rfl, wa, a, b, n, ar, s0, t0, rfl, W.to S1, ha.to S1, gs, hb.to S1, gt, fun H2 k S2 hk => ⟨k, rfl, ?_⟩⟩
  have S12 := S1.trans S2
  cases k with
  | false => exact iteT (q _ _ S12 (fun _ => rfl) fun d hd => absurd (hk.mpr ⟨d, hd.1⟩) Bool.false_ne_true)
  | true =>
    obtain ⟨m, hm⟩ := hk.mp rfl
    obtain ⟨d, _, hd⟩ := isD_of hm
    refine iteF ⟨_, rfl, _, rfl, wa, a, n, ar, s0, rfl, W.to S12, ha.to S12, gs, fun H3 dd f S3 ndd hf D => ?_⟩
    have S13 := S12.trans S3
    refine ⟨.ref b, rfl, dd, .int d, rfl, dget_in hf (hb.to S13) D.nd ((D.all t0 d).mpr ⟨d, rfl, hd⟩), ?_⟩
    refine ⟨.ref b, rfl, b, _, rfl, .inr (hb.to S13).sq, .ref a, rfl, a, _, rfl, .inr (ha.to S13).sq, _, _, rfl, rfl, _, _, rfl, ?_⟩
    rw [List.length_map, List.length_map]
    refine ⟨.int d, rfl, .int _, rfl, _, _, rfl, rfl, _, _, rfl, rfl, ⟨by decide, by decide⟩, .int d, rfl, .int _, rfl, _, _, rfl, rfl, _, _, rfl, rfl, ⟨by decide, by decide⟩, by show 2 ≤ sizeLine; decide, fun p np => ?_⟩
    refine q _ _ (S13.new np) (fun h => absurd ⟨m, hm⟩ h) fun d' hd' => ⟨p, rfl, ?_⟩
    rw [hd'.uniq hd]
    exact upd_same
/-! ### peaks -/
structure Pk (n : Int) (ar : Ar) (s t : S) (p : Int) : Prop where
  reach : ∃ m, Pth (Rl n ar (okm p)) m s t
  ls : okm p s
  lt : okm p t
  le : p ≤ n
  least : ∀ p', p' < p → okm p' s → ¬ ∃ m, Pth (Rl n ar (okm p')) m s t
def sp_peak_in : Sp := fun vs H Q _ => ∃ (wa a b : Addr) (n : Int) (ar : Ar) (s t : S), vs = [.ref wa, .ref a, .ref b] ∧ WebAt H wa n ar ∧ Tp H a s ∧ Good n s ∧ Tp H b t ∧ Good n t ∧ Rc n ar s t ∧
  ∀ H' p, Same H H' → Pk n ar s t p → Q (.int p) H'
theorem pk_end {n p : Int} {ar : Ar} {s t : S} {m : Nat} (h : Pth (Rl n ar (okm p)) m s t) (hs : okm p s) : okm p t := by
  cases m with
  | zero => exact (show s = t from h) ▸ hs
  | succ m => exact (let ⟨u, _, r⟩ := h.last; r.2.2.2.1)
theorem pk_mono {n p p' : Int} {ar : Ar} {s t : S} {m : Nat} (h : Pth (Rl n ar (okm p)) m s t) (hp : p ≤ p') : Pth (Rl n ar (okm p')) m s t :=
  h.imp fun _ _ r => ⟨r.1, r.2.1, Int.le_trans r.2.2.1 hp, Int.le_trans r.2.2.2.1 hp, r.2.2.2.2⟩
theorem pk_all {n p : Int} {ar : Ar} {s t : S} {m : Nat} (n0 : 0 ≤ n) (h : Pth (Rl n ar fun _ => True) m s t) (hp : n ≤ p) : Pth (Rl n ar (okm p)) m s t :=
  h.imp fun _ _ r => ⟨r.1, r.2.1, by have := good_len r.1; show ((_ : Nat) : Int) ≤ p; omega, by have := good_len r.2.1; show ((_ : Nat) : Int) ≤ p; omega, r.2.2.2.2⟩
abbrev N_peak_in : List PySem.Str := ["web", "one", "other", "found"]
theorem sc_peak_in : FnScope N_peak_in ["web", "one", "other"] (defScope s_peak_in) := ⟨rfl, rfl, rfl, by decide +kernel, rfl, by decide +kernel, by decide +kernel⟩
-- deps: below_from; slots: 0:web 1:one 2:other 3:found
theorem ok_peak_in (F : Src K mg "peak_in" s_peak_in) (T : Txt mg) (D_below_from : Def P w K mg base 3 "below_from" ["web", "burning", "most"] sp_below_from) : Def P w K mg base 4 "peak_in" ["web", "one", "other"] sp_peak_in := by
  refine mkDef F sc_peak_in (fun _ _ _ _ _ _ us hl => match us, hl with | [_, _, _], _ => rfl) (fun vs H Q E h => ?_) (fun f cdv A outer s H vs Q E hr h => ?_)
  · first | (obtain ⟨_, rfl, _⟩ := h; rfl) | (obtain ⟨_, _, rfl, _⟩ := h; rfl) | (obtain ⟨_, _, _, rfl, _⟩ := h; rfl) | (obtain ⟨_, _, _, _, rfl, _⟩ := h; rfl) | (obtain ⟨_, _, _, _, _, rfl, _⟩ := h; rfl) | (obtain ⟨_, _, _, _, _, _, rfl, _⟩ := h; rfl) | (obtain ⟨_, _, _, _, _, _, _, rfl, _⟩ := h; rfl) | (obtain ⟨_, _, _, _, _, _, _, _, rfl, _⟩ := h; rfl) | (obtain ⟨_, _, _, _, _, _, _, _, _, rfl, _⟩ := h; rfl) | (obtain ⟨_, _, _, _, _, _, _, _, _, _, rfl, _⟩ := h; rfl) | (obtain ⟨_, _, _, _, _, _, _, _, _, _, _, rfl, _⟩ := h; rfl)
  obtain ⟨wa, a, b, n, ar, s0, t0, rfl, W, ha, gs, hb, gt, ⟨m, hm⟩, q⟩ := h
  have gw := W.gw
  have n1 := gw.n1
  have n7 := gw.n7
  have ls := good_len gs
  have lt := good_len gt
  have nd := sc_peak_in.nd
  refine ⟨_, (pss_cons (ps_set (i := 3) nd rfl (.inl rfl) (pe_callB (call_max2 rfl) (by rfl) T.b_max (by decide +kernel) (pa_cons (pe_callB lenK (by rfl) T.b_len (by decide +kernel) (pa_cons (pv 1) pa_nil)) (pa_cons (pe_callB lenK (by rfl) T.b_len (by decide +kernel) (pa_cons (pv 2) pa_nil)) pa_nil))))
      (pss_cons (ps_while PassesOwn.never (pt_cmp (pc_dnotin (hu_of hr) (pv 2) (pc D_below_from (hr.mono (by decide)) (pa_cons (pv 0) (pa_cons (pv 1) (pa_cons (pv 3) pa_nil)))))) (pss_one (ps_aug (i := 3) nd rfl (.inl rfl) pe_int ip_add)))
      (pss_one (ps_ret (pv 3))))), ?_⟩
  refine ⟨.ref a, rfl, a, _, rfl, .inr ha.sq, .ref b, rfl, b, _, rfl, .inr hb.sq, _, _, rfl, ?_⟩
  rw [List.length_map, List.length_map]
  refine ⟨fun mu σ H' => ∃ p : Int, σ = [some (.ref wa), some (.ref a), some (.ref b), some (.int p)] ∧ Same H H' ∧ okm p s0 ∧ okm p t0 ∧ p ≤ n ∧ (∀ p', p' < p → okm p' s0 → ¬ ∃ m, Pth (Rl n ar (okm p')) m s0 t0) ∧ mu = (8 - p).toNat,
    ⟨_, if (t0.length : Int) > s0.length then t0.length else s0.length, rfl, Same.refl H, ?_, ?_, ?_, ?_, rfl⟩, ?_⟩
  · show (_ : Int) ≤ _; split <;> omega
  · show (_ : Int) ≤ _; split <;> omega
  · split <;> omega
  · rintro p' hp' h1 ⟨k, hk⟩
    have h2 := pk_end hk h1
    have h1 : (s0.length : Int) ≤ p' := h1
    have h2 : (t0.length : Int) ≤ p' := h2
    split at hp' <;> omega
  rintro mu σ H1 ⟨p, rfl, S1, ps, pt, pn, least, rfl⟩
  refine ⟨.ref b, rfl, _, rfl, _, rfl, _, rfl, wa, a, n, p, ar, s0, rfl, W.to S1, ha.to S1, gs, fun H2 dd f S2 ndd hf D _ => ?_⟩
  have S12 := S1.trans S2
  have D := D ps
  refine ⟨dd, _, rfl, dget_enc hf (hb.to S12), _, rfl, ?_⟩
  by_cases hin : t0 ∈ f.map (·.1)
  · have e2 : (!((fget f t0).map V.int).isSome) = false := by
      cases h : fget f t0 with
      | none => exact absurd hin (fget_none.mp h)
      | some z => rfl
    rw [e2]
    obtain ⟨e, he, et⟩ := List.mem_map.mp hin
    obtain ⟨d, _, hd⟩ := (D.all e.1 e.2).mp he
    have hd : PLM.IsD (Rl n ar (okm p)) s0 t0 d := by rw [← et]; exact hd
    exact iteF ⟨.int p, rfl, q _ _ S12 ⟨⟨d, hd.1⟩, ps, pt, pn, least⟩⟩
  · have e1 : (!((fget f t0).map V.int).isSome) = true := by rw [fget_none.mpr hin] <;> rfl
    rw [e1]
    have no : ¬ ∃ m, Pth (Rl n ar (okm p)) m s0 t0 := fun ⟨k, hk⟩ => by
      obtain ⟨d, _, hd⟩ := isD_of hk
      exact hin (List.mem_map_of_mem (f := (·.1)) ((D.all t0 d).mpr ⟨d, rfl, hd⟩))
    have pn' : p < n := Int.not_le.mp fun h => no ⟨m, pk_all (by omega) hm h⟩
    refine iteT ⟨fun σ' H' => ∃ m', m' < (8 - p).toNat ∧ _, fun σ' H' h => h, ?_⟩
    refine ⟨.int p, rfl, p, 1, rfl, rfl, (8 - (p + 1)).toNat, by omega, p + 1, rfl, S12, ?_, ?_, by omega, fun p' hp' h1 => ?_, rfl⟩
    · have h : (s0.length : Int) ≤ p := ps
      show (s0.length : Int) ≤ p + 1
      omega
    · have h : (t0.length : Int) ≤ p := pt
      show (t0.length : Int) ≤ p + 1
      omega
    · by_cases c : p' = p
      · rw [c]
        exact no
      · exact least p' (by omega) h1
def sp_least_peak : Sp := fun vs H Q _ => ∃ (wa a b : Addr) (n : Int) (ar : Ar) (s t : S), vs = [.ref wa, .ref a, .ref b] ∧ WebAt H wa n ar ∧ Tp H a s ∧ Good n s ∧ Tp H b t ∧ Good n t ∧
  ∀ H' v, Same H H' → (¬ Rc n ar s t → v = .non) → (Rc n ar s t → ∃ p, v = .int p ∧ Pk n ar s t p) → Q v H'
abbrev N_least_peak : List PySem.Str := ["web", "one", "other"]
theorem sc_least_peak : FnScope N_least_peak ["web", "one", "other"] (defScope s_least_peak) := ⟨rfl, rfl, rfl, by decide +kernel, rfl, by decide +kernel, by decide +kernel⟩
-- deps: need_two comes_in peak_in; slots: 0:web 1:one 2:other
theorem ok_least_peak (F : Src K mg "least_peak" s_least_peak) (T : Txt mg) (D_need_two : Def P w K mg base 5 "need_two" ["web", "one", "other"] sp_need_two) (D_comes_in : Def P w K mg base 2 "comes_in" ["web", "one", "other"] sp_comes_in) (D_peak_in : Def P w K mg base 4 "peak_in" ["web", "one", "other"] sp_peak_in) : Def P w K mg base 6 "least_peak" ["web", "one", "other"] sp_least_peak := by
  refine mkDef F sc_least_peak (fun _ _ _ _ _ _ us hl => match us, hl with | [_, _, _], _ => rfl) (fun vs H Q E h => ?_) (fun f cdv A outer s H vs Q E hr h => ?_)
  · first | (obtain ⟨_, rfl, _⟩ := h; rfl) | (obtain ⟨_, _, rfl, _⟩ := h; rfl) | (obtain ⟨_, _, _, rfl, _⟩ := h; rfl) | (obtain ⟨_, _, _, _, rfl, _⟩ := h; rfl) | (obtain ⟨_, _, _, _, _, rfl, _⟩ := h; rfl) | (obtain ⟨_, _, _, _, _, _, rfl, _⟩ := h; rfl) | (obtain ⟨_, _, _, _, _, _, _, rfl, _⟩ := h; rfl) | (obtain ⟨_, _, _, _, _, _, _, _, rfl, _⟩ := h; rfl) | (obtain ⟨_, _, _, _, _, _, _, _, _, rfl, _⟩ := h; rfl) | (obtain ⟨_, _, _, _, _, _, _, _, _, _, rfl, _⟩ := h; rfl) | (obtain ⟨_, _, _, _, _, _, _, _, _, _, _, rfl, _⟩ := h; rfl)
  obtain ⟨wa, a, b, n, ar, s0, t0, rfl, W, ha, gs, hb, gt, q⟩ := h
  have nd := sc_least_peak.nd
  refine ⟨_, (pss_cons (ps_expr (pc D_need_two (hr.mono (by decide)) (pa_cons (pv 0) (pa_cons (pv 1) (pa_cons (pv 2) pa_nil)))))
      (pss_one (ps_ret (pe_ifExp (pt_val (pc D_comes_in (hr.mono (by decide)) (pa_cons (pv 0) (pa_cons (pv 1) (pa_cons (pv 2) pa_nil))))) (pc D_peak_in (hr.mono (by decide)) (pa_cons (pv 0) (pa_cons (pv 1) (pa_cons (pv 2) pa_nil)))) pe_non)))), ?_⟩
  refine ⟨_, rfl, _, rfl, _, rfl, wa, a, b, n, ar, s0, t0, rfl, W, ha, gs, hb, gt, fun H1 S1 => ?_⟩
  refine ⟨_, rfl, _, rfl, _, rfl, wa, a, b, n, ar, s0, t0, rfl, W.to S1, ha.to S1, gs, hb.to S1, gt, fun H2 k S2 hk => ⟨k, rfl, ?_⟩⟩
  have S12 := S1.trans S2
  cases k with
  | false => exact iteF (q _ _ S12 (fun _ => rfl) fun h => absurd (hk.mpr h) Bool.false_ne_true)
  | true =>
    have rc := hk.mp rfl
    exact iteT ⟨_, rfl, _, rfl, _, rfl, wa, a, b, n, ar, s0, t0, rfl, W.to S12, ha.to S12, gs, hb.to S12, gt, rc, fun H3 p S3 pk => q _ _ (S12.trans S3) (fun h => absurd rc h) fun _ => ⟨p, rfl, pk⟩⟩
end
end PLW

/-! PLRr -/
set_option Elab.async false
set_option linter.all false
set_option maxRecDepth 100000
set_option maxHeartbeats 2000000
/-! Counting dicts of standings. -/
namespace PLR
open PySem PySem.Spec PyProof.Rows L2 PLM
theorem wt_fget (s : S) : ∀ f : List (S × Int), wt f s = (fget f s).getD 0
  | [] => rfl
  | e :: f => by
    have ih := wt_fget s f
    unfold wt
    unfold fget at ih ⊢
    by_cases h : e.1 = s
    · rw [if_pos h]
      simp [h]
    · rw [if_neg h]
      simp [h, ih]
theorem fset_new {t : S} {z : Int} : ∀ {f : List (S × Int)}, t ∉ f.map (·.1) → fset f t z = f ++ [(t, z)]
  | [], _ => rfl
  | e :: f, h => by
    rw [List.map_cons, List.mem_cons, not_or] at h
    unfold fset
    rw [if_neg (Ne.symm h.1), fset_new h.2]
    rfl
theorem fset_old {t : S} {z : Int} : ∀ {f : List (S × Int)}, (f.map (·.1)).Nodup → t ∈ f.map (·.1) → fset f t z = f.map fun e => if e.1 = t then (t, z) else e
  | e :: f, nd, h => by
    rw [List.map_cons, List.nodup_cons] at nd
    unfold fset
    rw [List.map_cons]
    by_cases c : e.1 = t
    · rw [if_pos c, if_pos c]
      congr 1
      symm
      refine (List.map_congr_left fun x hx => ?_).trans (List.map_id f)
      rw [if_neg fun (q : x.1 = t) => nd.1 (by rw [c, ← q]; exact List.mem_map_of_mem (f := (·.1)) hx)]
      rfl
    · rw [if_neg c, if_neg c]
      rw [List.map_cons, List.mem_cons] at h
      rw [fset_old nd.2 (h.resolve_left (Ne.symm c))]
theorem any_enc {f : List (S × Int)} {t : S} (h : t ∈ f.map (·.1)) : ((enc f).any fun kv => decide (kv.1 = ky t)) = true := by
  obtain ⟨e, he, rfl⟩ := List.mem_map.mp h
  rw [List.any_eq_true]
  exact ⟨(ky e.1, V.int e.2), List.mem_map.mpr ⟨e, he, rfl⟩, by simp⟩
theorem putK_fset {f : List (S × Int)} {t : S} {z : Int} (nd : (f.map (·.1)).Nodup) : putK (enc f) (ky t) (V.int z) = enc (fset f t z) := by
  by_cases h : t ∈ f.map (·.1)
  · rw [fset_old nd h]
    unfold putK
    rw [if_pos (any_enc h)]
    unfold enc
    rw [List.map_map, List.map_map]
    refine List.map_congr_left fun e _ => ?_
    show (if ky e.1 = ky t then (ky e.1, V.int z) else (ky e.1, V.int e.2)) = (ky (if e.1 = t then (t, z) else e).1, V.int (if e.1 = t then (t, z) else e).2)
    by_cases c : e.1 = t
    · rw [if_pos c, if_pos (by rw [c]), c]
    · rw [if_neg c, if_neg fun q => c (ky_inj q)]
  · rw [put_new h, fset_new h]
theorem dput_fset {H : Hp} {a b : Addr} {f : List (S × Int)} {s : S} {z : Int} (h : H a = some (.dT (enc f))) (t : Tp H b s) (nd : (f.map (·.1)).Nodup) (l : f.length ≤ 1000) : DPut H a (.ref b) (.int z) (upd H a (.dT (enc (fset f s z)))) := by
  rw [← putK_fset nd]
  exact DPut.t h t.ky (by rw [length_enc]; exact small1000 l)
theorem dget_wt {H : Hp} {a b : Addr} {f : List (S × Int)} {s : S} (h : H a = some (.dT (enc f))) (t : Tp H b s) : ∃ o, DGet H a (.ref b) o ∧ o.getD (.int 0) = .int (wt f s) := by
  refine ⟨_, dget_enc h t, ?_⟩
  rw [wt_fget]
  cases fget f s <;> rfl
theorem few_keys {n : Int} (h7 : n ≤ 7) {f : List (S × Int)} (nd : (f.map (·.1)).Nodup) (g : ∀ s ∈ f.map (·.1), Good n s) : f.length ≤ 128 := by
  have := good_few h7 nd g
  rw [List.length_map] at this
  exact this
/-- the walk over the keys of a locked dict: f[i] at turn i -/
theorem enc_at {f : List (S × Int)} {i : Nat} (hi : i < f.length) {k : List Key} {v : V} (e1 : (enc f)[i]? = some (k, v)) : k = ky f[i].1 ∧ v = V.int f[i].2 := by
  have e1' : (enc f)[i]? = some (ky f[i].1, V.int f[i].2) := by
    show (f.map _)[i]? = _
    rw [List.getElem?_map, List.getElem?_eq_getElem hi]
    rfl
  rw [e1'] at e1
  cases e1
  exact ⟨rfl, rfl⟩
theorem tp_ky {H : Hp} {a : Addr} {s : S} (h : H a = some (.tup ((ky s).map kV))) : Tp H a s := by
  rw [ky_kV] at h
  exact h
theorem dget_frz {H : Hp} {a b : Addr} {od : Obj} {f : List (S × Int)} {s : S} {z : Int} (h : H a = some (.frz od (.dT (enc f)))) (t : Tp H b s) (nd : (f.map (·.1)).Nodup) (m : (s, z) ∈ f) : DGet H a (.ref b) (some (.int z)) :=
  .inr ⟨enc f, ky s, b, .inr ⟨od, h⟩, rfl, t.ky, by rw [val_enc, (fget_some nd).mpr m] <;> rfl⟩
end PLR

/-! PLWi -/
set_option Elab.async false
set_option linter.all false
set_option maxRecDepth 100000
set_option maxHeartbeats 4000000
namespace PLW
open PySem PySem.Spec PyProof.Rows L2 PLM PLR
section
variable {P : Program} {w : World} {K : PySem.W.Frag} {mg : Str → Option Value} {base : Heap}
/-! ### way_between -/
theorem way_head {n : Int} {ar : Ar} {ok : S → Prop} {t u : S} {f : List (S × Int)} {e : Nat} (W : GW n ar) (D : DT (Rl n ar ok) t f) (gu : Good n u) (ht : ok t) (h : PLM.IsD (Rl n ar ok) u t (e + 1)) :
    ∃ k L, (doab n ar u).filter (fun k => decide (((fget f (tog u k)).getD (-1)) = ((e + 1 : Nat) : Int) - 1)) = k :: L ∧ canB ar u k = true ∧ Good n (tog u k) ∧ ok (tog u k) ∧ PLM.IsD (Rl n ar ok) (tog u k) t e := by
  have key : ∀ k, decide (((fget f (tog u k)).getD (-1)) = ((e + 1 : Nat) : Int) - 1) = true ↔ PLM.IsD (Rl n ar ok) (tog u k) t e := fun k => by
    rw [decide_eq_true_eq]
    constructor
    · intro h
      cases q : fget f (tog u k) with
      | none => rw [q] at h; simp only [Option.getD_none] at h; omega
      | some z =>
        rw [q] at h
        simp only [Option.getD_some] at h
        obtain ⟨d, hd, i⟩ := (D.all _ _).mp ((fget_some D.nd).mp q)
        have : d = e := by omega
        exact this ▸ i
    · intro i
      rw [(fget_some D.nd).mpr ((D.all _ _).mpr ⟨e, rfl, i⟩)]
      simp only [Option.getD_some]
      omega
  obtain ⟨k, ck, km, i⟩ := isD_down W h
  have mem : k ∈ (doab n ar u).filter (fun k => decide (((fget f (tog u k)).getD (-1)) = ((e + 1 : Nat) : Int) - 1)) := List.mem_filter.mpr ⟨km, (key k).mpr i⟩
  cases q : (doab n ar u).filter (fun k => decide (((fget f (tog u k)).getD (-1)) = ((e + 1 : Nat) : Int) - 1)) with
  | nil => rw [q] at mem; cases mem
  | cons j L =>
    have jm : j ∈ (doab n ar u).filter (fun k => decide (((fget f (tog u k)).getD (-1)) = ((e + 1 : Nat) : Int) - 1)) := by rw [q]; exact List.mem_cons_self
    obtain ⟨j1, j2⟩ := List.mem_filter.mp jm
    have cj := (mem_doab W gu).mp j1
    have kr := can_rng W gu cj
    have ij := (key j).mp j2
    exact ⟨j, L, rfl, cj, good_tog gu kr.1 kr.2, isD_ok ij ht, ij⟩
theorem getD_map (f : List (S × Int)) (t : S) : ((fget f t).map V.int).getD (.int (-1)) = .int ((fget f t).getD (-1)) := by
  cases fget f t <;> rfl
def sp_way_between : Sp := fun vs H Q _ => ∃ (wa a b : Addr) (n : Int) (ar : Ar) (s t : S), vs = [.ref wa, .ref a, .ref b] ∧ WebAt H wa n ar ∧ Tp H a s ∧ Good n s ∧ Tp H b t ∧ Good n t ∧
  ∀ H' v, Same H H' → (¬ Rc n ar s t → v = .non) → (∀ d : Nat, PLM.IsD (Rl n ar fun _ => True) s t d → ∃ p wd, v = .ref p ∧ Tp H' p wd ∧ Wd ar (fun _ => True) s t wd ∧ wd.length = d) → Q v H'
abbrev N_way_between : List PySem.Str := ["web", "one", "other", "told", "found", "here", "lamps", "lamp", "k"]
theorem sc_way_between : FnScope N_way_between ["web", "one", "other"] (defScope s_way_between) := ⟨rfl, rfl, rfl, by decide +kernel, rfl, by decide +kernel, by decide +kernel⟩
-- deps: need_two comes_in steps_to doable changed; slots: 0:web 1:one 2:other 3:told(cell) 4:found 5:here(cell) 6:lamps 7:lamp 8:k
theorem ok_way_between (F : Src K mg "way_between" s_way_between) (T : Txt mg) (D_need_two : Def P w K mg base 5 "need_two" ["web", "one", "other"] sp_need_two) (D_comes_in : Def P w K mg base 2 "comes_in" ["web", "one", "other"] sp_comes_in) (D_steps_to : Def P w K mg base 4 "steps_to" ["web", "burning"] sp_steps_to) (D_doable : Def P w K mg base 2 "doable" ["web", "burning"] sp_doable) (D_changed : Def P w K mg base 1 "changed" ["burning", "lamp"] sp_changed) : Def P w K mg base 6 "way_between" ["web", "one", "other"] sp_way_between := by
  refine mkDef F sc_way_between (fun _ _ _ _ _ _ us hl => match us, hl with | [_, _, _], _ => rfl) (fun vs H Q E h => ?_) (fun f cdv A outer s H vs Q E hr h => ?_)
  · first | (obtain ⟨_, rfl, _⟩ := h; rfl) | (obtain ⟨_, _, rfl, _⟩ := h; rfl) | (obtain ⟨_, _, _, rfl, _⟩ := h; rfl) | (obtain ⟨_, _, _, _, rfl, _⟩ := h; rfl) | (obtain ⟨_, _, _, _, _, rfl, _⟩ := h; rfl) | (obtain ⟨_, _, _, _, _, _, rfl, _⟩ := h; rfl) | (obtain ⟨_, _, _, _, _, _, _, rfl, _⟩ := h; rfl) | (obtain ⟨_, _, _, _, _, _, _, _, rfl, _⟩ := h; rfl) | (obtain ⟨_, _, _, _, _, _, _, _, _, rfl, _⟩ := h; rfl) | (obtain ⟨_, _, _, _, _, _, _, _, _, _, rfl, _⟩ := h; rfl) | (obtain ⟨_, _, _, _, _, _, _, _, _, _, _, rfl, _⟩ := h; rfl)
  obtain ⟨wa, a, b, n, ar, s0, t0, rfl, W, ha, gs, hb, gt, q⟩ := h
  have gw := W.gw
  have hR : ∀ s t, Rl n ar (fun _ => True) s t → Good n t := fun s t r => r.2.1
  have nd := sc_way_between.nd
  refine ⟨_, (pss_cons (ps_expr (pc D_need_two (hr.mono (by decide)) (pa_cons (pv 0) (pa_cons (pv 1) (pa_cons (pv 2) pa_nil)))))
      (pss_cons (ps_if (pt_not (pt_val (pc D_comes_in (hr.mono (by decide)) (pa_cons (pv 0) (pa_cons (pv 1) (pa_cons (pv 2) pa_nil)))))) (pss_one (ps_ret pe_non)) pss_nil)
      (pss_cons (ps_asg (pe_tup (pa_cons (pc D_steps_to (hr.mono (by decide)) (pa_cons (pv 0) (pa_cons (pv 2) pa_nil))) (pa_cons (pe_lst pa_nil) (pa_cons (pv 1) pa_nil)))) (pg_tup rfl (pgs_cons (pg_name (i := 3) nd rfl (.inr rfl)) (pgs_cons (pg_name (i := 4) nd rfl (.inl rfl)) (pgs_cons (pg_name (i := 5) nd rfl (.inr rfl)) pgs_nil)))))
      (pss_cons (ps_while PassesOwn.never (pt_cmpR (op_neDK hr.units) (pv 5) (pv 2) (nomark _)) (pss_cons (ps_set (i := 6) nd rfl (.inl rfl) (pc D_doable (hr.mono (by decide)) (pa_cons (pv 0) (pa_cons (pv 5) pa_nil))))
      (pss_cons (ps_set (i := 7) nd rfl (.inl rfl) (pe_ix ix_listK (pe_lc (own := [("k", 8)]) (g := (gName 8)) (by rfl) nd (pi_listK (pv 6)) (blkK (own := [("k", 8)]) (N := N_way_between) (sc := defScope s_way_between) (by decide +kernel)) (fun _ _ _ _ _ => (pg_name (i := 8) nd rfl (Or.inl rfl))) (fun _ _ _ _ _ => pts_one (pt_cmpR op_eq (pe_dget2 (hu_of hr) (pv 3) (pc D_changed (hr.mono (by decide)) (pa_cons (pv 5) (pa_cons (pv 8) pa_nil))) (pe_un un_neg pe_int) ⟨rfl, rfl, rfl, rfl⟩) (pe_op op_sub (pe_dget (hu_of hr) (pv 3) (pv 5) (fun _ _ => rfl)) pe_int) (nomark _))) (fun _ _ _ _ _ => (pv 8))) pe_int (fun _ _ => rfl)))
      (pss_cons (ps_expr (pe_bm PySem.F.plainAttrs_list PySem.F.slot_list_append PySem.F.type_list_append mt_append (pv 4) (pa_cons (pv 7) pa_nil)))
      (pss_one (ps_set (i := 5) nd rfl (.inr rfl) (pc D_changed (hr.mono (by decide)) (pa_cons (pv 5) (pa_cons (pv 7) pa_nil)))))))))
      (pss_one (ps_ret (pe_callTy tupleK (by rfl) T.b_tuple (by decide +kernel) (pa_cons (pv 4) pa_nil)))))))), ?_⟩
  refine ⟨_, rfl, _, rfl, _, rfl, wa, a, b, n, ar, s0, t0, rfl, W, ha, gs, hb, gt, fun H1 S1 => ?_⟩
  refine ⟨_, rfl, _, rfl, _, rfl, wa, a, b, n, ar, s0, t0, rfl, W.to S1, ha.to S1, gs, hb.to S1, gt, fun H2 k S2 hk => ⟨k, rfl, ?_⟩⟩
  have S12 := S1.trans S2
  cases k with
  | false => exact iteT (q _ _ S12 (fun _ => rfl) fun d hd => absurd (hk.mpr ⟨d, hd.1⟩) Bool.false_ne_true)
  | true =>
  obtain ⟨m, hm⟩ := hk.mp rfl
  obtain ⟨d, _, hd⟩ := isD_of hm
  have d127 := isD_few gw.n7 gs hR hd
  refine iteF ⟨_, rfl, _, rfl, wa, b, n, ar, t0, rfl, W.to S12, hb.to S12, gt, fun H3 dd f ar' S3 ndd hf W' T D => ?_⟩
  have DT := D.turn gw W' T
  have S13 := S12.trans S3
  have ndd0 := Same.free0 S12 ndd
  refine ⟨Nat.zero_le _, fun fo nfo => ⟨.ref a, rfl, by show 3 ≤ sizeLine; decide, fun P nP => ?_⟩⟩
  have nfo0 := Same.free0 S13 nfo
  have S4 := (S13.new (o := .lst []) nfo).new (o := .tup [.ref dd, .ref fo, .ref a]) nP
  refine ⟨P, _, rfl, tq upd_same, rfl, .ref dd, [.ref fo, .ref a], rfl, .ref fo, [.ref a], rfl, .ref a, [], rfl, rfl, ?_⟩
  have e4 := up (u := .tup [.ref dd, .ref fo, .ref a]) (show upd H3 fo (.lst []) fo = some (.lst []) from upd_same) nP
  refine ⟨fun mu σ H' => ∃ (ah : Addr) (u : S) (wd : List Int) (y6 y7 y8 : Option V), σ = [some (.ref wa), some (.ref a), some (.ref b), some (.ref dd), some (.ref fo), some (.ref ah), y6, y7, y8] ∧ Same H H' ∧ H' dd = some (.dT (enc f)) ∧ H' fo = some (.lst (wd.map V.int)) ∧ Tp H' ah u ∧ Good n u ∧
    Wd ar (fun _ => True) s0 u wd ∧ PLM.IsD (Rl n ar fun _ => True) u t0 mu ∧ wd.length + mu = d,
    ⟨d, a, s0, [], none, none, none, rfl, S4, up (up hf nfo) nP, e4, ha.to S4, gs, rfl, hd, Nat.zero_add _⟩, ?_⟩
  rintro mu σ H4 ⟨ah, u, wd, y6, y7, y8, rfl, S4, hdd, hfo, tu, gu, hw, iu, hlen⟩
  refine ⟨.ref ah, rfl, .ref b, rfl, _, _, dp_tup tu.sq, dp_tup (hb.to S4).sq, inD_shaped _, inD_shaped _, _, rfl, ?_⟩
  rw [inD_eqv]
  cases mu with
  | zero =>
    have eu : u = t0 := iu.1
    subst eu
    rw [decide_eq_true rfl]
    refine iteF ⟨.ref fo, rfl, fo, _, rfl, .inl ⟨lq hfo, fun l nl => ?_⟩⟩
    refine q _ _ (S4.new nl) (fun h => absurd ⟨m, hm⟩ h) fun d' hd' => ⟨l, wd, rfl, upd_same, hw, ?_⟩
    have := hd'.uniq hd
    omega
  | succ e =>
  rw [decide_eq_false fun z => by have := (isD_neq iu).mp z; omega]
  refine iteT ⟨fun σ' H' => ∃ m', m' < e + 1 ∧ _, fun σ' H' h => h, ?_⟩
  refine ⟨_, rfl, _, rfl, wa, ah, n, ar, u, rfl, W.to S4, tu, gu, fun H5 p5 S5 n5 e5 => ?_⟩
  obtain ⟨k, L, ek, ck, gk, _, ik⟩ := way_head gw DT gu trivial iu
  have S45 := S4.trans S5
  have len7 := length_doab gw u
  refine ⟨.ref p5, rfl, p5, rfl, ⟨_, lq e5⟩, fun C nC => ?_⟩
  have ndC := ne_of_none (S5 _ _ hdd) nC
  have nC0 := Same.free0 S5 nC
  refine lc_list (K := K) (a := p5) (xs := (doab n ar u).map V.int) (fun i H' => Same H5 H' ∧ H' C = some (.lst ((((doab n ar u).take i).filter (fun k => decide (((fget f (tog u k)).getD (-1)) = ((e + 1 : Nat) : Int) - 1))).map V.int)))
    ⟨(Same.refl H5).new nC, upd_same⟩ (fun i H' _ hP => lq (hP.1 _ _ e5)) (fun i v H6 hv hP => ?_) (fun H6 hP => ?_)
  · obtain ⟨S6, hC⟩ := hP
    obtain ⟨k2, rfl, hk2, km⟩ := get_ints hv
    have fl := filter_snoc (p := fun k => decide (((fget f (tog u k)).getD (-1)) = ((e + 1 : Nat) : Int) - 1)) hk2
    have S56 := S5.trans S6
    refine ⟨wipe1, .ref dd, rfl, dd, rfl, isD_dT (S56 _ _ hdd), .ref ah, rfl, .int k2, rfl, ah, n, k2, u, rfl, tu.to S56, gu, gw.n7, fun H7 p7 S7 t7 => ?_⟩
    have S67 := S56.trans S7
    refine ⟨1, rfl, _, dget_enc (S67 _ _ hdd) t7, ?_⟩
    rw [show (-1 : Int) = -1 from rfl, getD_map]
    refine ⟨.ref dd, rfl, .ref ah, rfl, dd, .int ((e + 1 : Nat) : Int), rfl, dget_in (S67 _ _ hdd) (tu.to S67) DT.nd ((DT.all u _).mpr ⟨_, rfl, iu⟩), _, 1, rfl, rfl, rfl, _, rfl, ?_⟩
    have dec : decide (V.int ((fget f (tog u k2)).getD (-1)) = V.int (((e + 1 : Nat) : Int) - 1)) = decide (((fget f (tog u k2)).getD (-1)) = ((e + 1 : Nat) : Int) - 1) := by
      simp
    rw [dec]
    have l1 := List.length_filter_le (fun k => decide (((fget f (tog u k)).getD (-1)) = ((e + 1 : Nat) : Int) - 1)) ((doab n ar u).take i)
    rw [List.length_take] at l1
    have hC7 := S7 _ _ hC
    cases c : decide (((fget f (tog u k2)).getD (-1)) = ((e + 1 : Nat) : Int) - 1) with
    | true =>
      refine iteT ⟨.int k2, rfl, _, hC7, by rw [List.length_map]; exact small1000 (by omega), (S6.trans S7).put nC, ?_⟩
      rw [upd_same, fl, c]
      simp
    | false =>
      refine iteF ⟨S6.trans S7, ?_⟩
      rw [hC7, fl, c]
      simp
  · obtain ⟨S6, hC⟩ := hP
    rw [List.length_map, List.take_length, ek] at hC
    have S56 := S5.trans S6
    have hfo6 := S56 _ _ hfo
    have few : wd.length ≤ 127 := by omega
    refine ⟨C, _, 0, .int k, rfl, rfl, lq hC, atI_nat (j := 0) rfl, ?_⟩
    refine ⟨.ref fo, rfl, .inl ⟨rfl, _, lq hfo6⟩, .int k, rfl, fo, _, _, rfl, rfl, hfo6, by rw [List.length_map]; exact small1000 (by omega), ?_⟩
    have tu7 := (tu.to S56).put hfo6 (o := .lst (wd.map V.int ++ [.int k]))
    refine ⟨_, rfl, _, rfl, ah, n, k, u, rfl, tu7, gu, gw.n7, fun H8 p8 S8 t8 => ?_⟩
    have ndf : dd ≠ fo := fun z => by
      rw [z, hfo] at hdd
      cases hdd
    refine ⟨e, Nat.lt_succ_self _, p8, tog u k, wd ++ [k], _, _, _, rfl, ((S4.trans S56).put nfo0).trans S8, S8 _ _ (by rw [upd_ne ndf]; exact S56 _ _ hdd), S8 _ _ (by rw [upd_same, map_snoc]), t8, gk, hw.snoc ck trivial, ik, ?_⟩
    rw [List.length_append, List.length_singleton]
    omega
end
end PLW

/-! PLWj -/
set_option Elab.async false
set_option linter.all false
set_option maxRecDepth 100000
set_option maxHeartbeats 4000000
namespace PLW
open PySem PySem.Spec PyProof.Rows L2 PLM PLR
section
variable {P : Program} {w : World} {K : PySem.W.Frag} {mg : Str → Option Value} {base : Heap}
def sp_peak_word : Sp := fun vs H Q _ => ∃ (wa a b : Addr) (n : Int) (ar : Ar) (s t : S), vs = [.ref wa, .ref a, .ref b] ∧ WebAt H wa n ar ∧ Tp H a s ∧ Good n s ∧ Tp H b t ∧ Good n t ∧
  ∀ H' v, Same H H' → (¬ Rc n ar s t → v = .non) → (Rc n ar s t → ∃ p wd pk, v = .ref p ∧ Pk n ar s t pk ∧ Tp H' p wd ∧ Wd ar (okm pk) s t wd ∧ wd.length ≤ 127) → Q v H'
abbrev N_peak_word : List PySem.Str := ["web", "one", "other", "most", "found", "here", "told", "lamp", "k"]
theorem sc_peak_word : FnScope N_peak_word ["web", "one", "other"] (defScope s_peak_word) := ⟨rfl, rfl, rfl, by decide +kernel, rfl, by decide +kernel, by decide +kernel⟩
-- deps: need_two comes_in peak_in below_from turned_in doable changed; slots: 0:web 1:one 2:other 3:most 4:found 5:here(cell) 6:told(cell) 7:lamp 8:k
theorem ok_peak_word (F : Src K mg "peak_word" s_peak_word) (T : Txt mg) (D_need_two : Def P w K mg base 5 "need_two" ["web", "one", "other"] sp_need_two) (D_comes_in : Def P w K mg base 2 "comes_in" ["web", "one", "other"] sp_comes_in) (D_peak_in : Def P w K mg base 4 "peak_in" ["web", "one", "other"] sp_peak_in) (D_below_from : Def P w K mg base 3 "below_from" ["web", "burning", "most"] sp_below_from) (D_turned_in : Def P w K mg base 1 "turned_in" ["web"] sp_turned_in) (D_doable : Def P w K mg base 2 "doable" ["web", "burning"] sp_doable) (D_changed : Def P w K mg base 1 "changed" ["burning", "lamp"] sp_changed) : Def P w K mg base 6 "peak_word" ["web", "one", "other"] sp_peak_word := by
  refine mkDef F sc_peak_word (fun _ _ _ _ _ _ us hl => match us, hl with | [_, _, _], _ => rfl) (fun vs H Q E h => ?_) (fun f cdv A outer s H vs Q E hr h => ?_)
  · first | (obtain ⟨_, rfl, _⟩ := h; rfl) | (obtain ⟨_, _, rfl, _⟩ := h; rfl) | (obtain ⟨_, _, _, rfl, _⟩ := h; rfl) | (obtain ⟨_, _, _, _, rfl, _⟩ := h; rfl) | (obtain ⟨_, _, _, _, _, rfl, _⟩ := h; rfl) | (obtain ⟨_, _, _, _, _, _, rfl, _⟩ := h; rfl) | (obtain ⟨_, _, _, _, _, _, _, rfl, _⟩ := h; rfl) | (obtain ⟨_, _, _, _, _, _, _, _, rfl, _⟩ := h; rfl) | (obtain ⟨_, _, _, _, _, _, _, _, _, rfl, _⟩ := h; rfl) | (obtain ⟨_, _, _, _, _, _, _, _, _, _, rfl, _⟩ := h; rfl) | (obtain ⟨_, _, _, _, _, _, _, _, _, _, _, rfl, _⟩ := h; rfl)
  obtain ⟨wa, a, b, n, ar, s0, t0, rfl, W, ha, gs, hb, gt, q⟩ := h
  have gw := W.gw
  have nd := sc_peak_word.nd
  refine ⟨_, (pss_cons (ps_expr (pc D_need_two (hr.mono (by decide)) (pa_cons (pv 0) (pa_cons (pv 1) (pa_cons (pv 2) pa_nil)))))
      (pss_cons (ps_if (pt_not (pt_val (pc D_comes_in (hr.mono (by decide)) (pa_cons (pv 0) (pa_cons (pv 1) (pa_cons (pv 2) pa_nil)))))) (pss_one (ps_ret pe_non)) pss_nil)
      (pss_cons (ps_asg (pe_tup (pa_cons (pc D_peak_in (hr.mono (by decide)) (pa_cons (pv 0) (pa_cons (pv 1) (pa_cons (pv 2) pa_nil)))) (pa_cons (pe_lst pa_nil) (pa_cons (pv 1) pa_nil)))) (pg_tup rfl (pgs_cons (pg_name (i := 3) nd rfl (.inl rfl)) (pgs_cons (pg_name (i := 4) nd rfl (.inl rfl)) (pgs_cons (pg_name (i := 5) nd rfl (.inr rfl)) pgs_nil)))))
      (pss_cons (ps_set (i := 6) nd rfl (.inr rfl) (pc D_below_from (hr.mono (by decide)) (pa_cons (pc D_turned_in (hr.mono (by decide)) (pa_cons (pv 0) pa_nil)) (pa_cons (pv 2) (pa_cons (pv 3) pa_nil)))))
      (pss_cons (ps_while PassesOwn.never (pt_cmpR (op_neDK hr.units) (pv 5) (pv 2) (nomark _)) (pss_cons (ps_set (i := 7) nd rfl (.inl rfl) (pe_ix ix_listK (pe_lc (own := [("k", 8)]) (g := (gName 8)) (by rfl) nd (pi_listK (pc D_doable (hr.mono (by decide)) (pa_cons (pv 0) (pa_cons (pv 5) pa_nil)))) (blkK (own := [("k", 8)]) (N := N_peak_word) (sc := defScope s_peak_word) (by decide +kernel)) (fun _ _ _ _ _ => (pg_name (i := 8) nd rfl (Or.inl rfl))) (fun _ _ _ _ _ => pts_one (pt_cmpR op_eq (pe_dget2 (hu_of hr) (pv 6) (pc D_changed (hr.mono (by decide)) (pa_cons (pv 5) (pa_cons (pv 8) pa_nil))) (pe_un un_neg pe_int) ⟨rfl, rfl, rfl, rfl⟩) (pe_op op_sub (pe_dget (hu_of hr) (pv 6) (pv 5) (fun _ _ => rfl)) pe_int) (nomark _))) (fun _ _ _ _ _ => (pv 8))) pe_int (fun _ _ => rfl)))
      (pss_cons (ps_expr (pe_bm PySem.F.plainAttrs_list PySem.F.slot_list_append PySem.F.type_list_append mt_append (pv 4) (pa_cons (pv 7) pa_nil)))
      (pss_one (ps_set (i := 5) nd rfl (.inr rfl) (pc D_changed (hr.mono (by decide)) (pa_cons (pv 5) (pa_cons (pv 7) pa_nil))))))))
      (pss_one (ps_ret (pe_callTy tupleK (by rfl) T.b_tuple (by decide +kernel) (pa_cons (pv 4) pa_nil))))))))), ?_⟩
  refine ⟨_, rfl, _, rfl, _, rfl, wa, a, b, n, ar, s0, t0, rfl, W, ha, gs, hb, gt, fun H1 S1 => ?_⟩
  refine ⟨_, rfl, _, rfl, _, rfl, wa, a, b, n, ar, s0, t0, rfl, W.to S1, ha.to S1, gs, hb.to S1, gt, fun H2 k S2 hk => ⟨k, rfl, ?_⟩⟩
  have S12 := S1.trans S2
  cases k with
  | false => exact iteT (q _ _ S12 (fun _ => rfl) fun h => absurd (hk.mpr h) Bool.false_ne_true)
  | true =>
  have rc := hk.mp rfl
  refine iteF ⟨_, rfl, _, rfl, _, rfl, wa, a, b, n, ar, s0, t0, rfl, W.to S12, ha.to S12, gs, hb.to S12, gt, rc, fun H3 pk S3 PK => ?_⟩
  have hR : ∀ s t, Rl n ar (okm pk) s t → Good n t := fun s t r => r.2.1
  obtain ⟨m, hm⟩ := PK.reach
  obtain ⟨d, _, hd⟩ := isD_of hm
  have d127 := isD_few gw.n7 gs hR hd
  have S13 := S12.trans S3
  refine ⟨Nat.zero_le _, fun fo nfo => ⟨.ref a, rfl, by show 3 ≤ sizeLine; decide, fun P nP => ?_⟩⟩
  have nfo0 := Same.free0 S13 nfo
  have S4 := (S13.new (o := .lst []) nfo).new (o := .tup [.int pk, .ref fo, .ref a]) nP
  refine ⟨P, _, rfl, tq upd_same, rfl, .int pk, [.ref fo, .ref a], rfl, .ref fo, [.ref a], rfl, .ref a, [], rfl, rfl, ?_⟩
  have e4 := up (u := .tup [.int pk, .ref fo, .ref a]) (show upd H3 fo (.lst []) fo = some (.lst []) from upd_same) nP
  refine ⟨_, rfl, wa, n, ar, rfl, W.to S4, fun H4 w1 ar' S4a W1 T => ⟨_, rfl, _, rfl, w1, b, n, pk, ar', t0, rfl, W1, hb.to (S4.trans S4a), gt, fun H5 dd f S5 ndd hf D _ => ?_⟩⟩
  have DT := (D PK.lt).turn gw W1.gw T
  have e4 := S5 _ _ (S4a _ _ e4)
  have S4 := (S4.trans S4a).trans S5
  refine ⟨fun mu σ H' => ∃ (ah : Addr) (u : S) (wd : List Int) (y7 y8 : Option V), σ = [some (.ref wa), some (.ref a), some (.ref b), some (.int pk), some (.ref fo), some (.ref ah), some (.ref dd), y7, y8] ∧ Same H H' ∧ H' dd = some (.dT (enc f)) ∧ H' fo = some (.lst (wd.map V.int)) ∧ Tp H' ah u ∧ Good n u ∧
    Wd ar (okm pk) s0 u wd ∧ PLM.IsD (Rl n ar (okm pk)) u t0 mu ∧ wd.length + mu = d,
    ⟨d, a, s0, [], none, none, rfl, S4, hf, e4, ha.to S4, gs, rfl, hd, Nat.zero_add _⟩, ?_⟩
  rintro mu σ H4 ⟨ah, u, wd, y7, y8, rfl, S4, hdd, hfo, tu, gu, hw, iu, hlen⟩
  refine ⟨.ref ah, rfl, .ref b, rfl, _, _, dp_tup tu.sq, dp_tup (hb.to S4).sq, inD_shaped _, inD_shaped _, _, rfl, ?_⟩
  rw [inD_eqv]
  cases mu with
  | zero =>
    have eu : u = t0 := iu.1
    subst eu
    rw [decide_eq_true rfl]
    refine iteF ⟨.ref fo, rfl, fo, _, rfl, .inl ⟨lq hfo, fun l nl => ?_⟩⟩
    refine q _ _ (S4.new nl) (fun h => absurd rc h) fun _ => ⟨l, wd, pk, rfl, PK, upd_same, hw, ?_⟩
    omega
  | succ e =>
  rw [decide_eq_false fun z => by have := (isD_neq iu).mp z; omega]
  refine iteT ⟨fun σ' H' => ∃ m', m' < e + 1 ∧ _, fun σ' H' h => h, ?_⟩
  refine ⟨_, rfl, _, rfl, wa, ah, n, ar, u, rfl, W.to S4, tu, gu, fun H5 p5 S5 n5 e5 => ?_⟩
  obtain ⟨k, L, ek, ck, gk, ok, ik⟩ := way_head gw DT gu PK.lt iu
  have S45 := S4.trans S5
  have len7 := length_doab gw u
  refine ⟨p5, rfl, ⟨_, lq e5⟩, fun C nC => ?_⟩
  have ndC := ne_of_none (S5 _ _ hdd) nC
  have nC0 := Same.free0 S5 nC
  refine lc_list (K := K) (a := p5) (xs := (doab n ar u).map V.int) (fun i H' => Same H5 H' ∧ H' C = some (.lst ((((doab n ar u).take i).filter (fun k => decide (((fget f (tog u k)).getD (-1)) = ((e + 1 : Nat) : Int) - 1))).map V.int)))
    ⟨(Same.refl H5).new nC, upd_same⟩ (fun i H' _ hP => lq (hP.1 _ _ e5)) (fun i v H6 hv hP => ?_) (fun H6 hP => ?_)
  · obtain ⟨S6, hC⟩ := hP
    obtain ⟨k2, rfl, hk2, km⟩ := get_ints hv
    have fl := filter_snoc (p := fun k => decide (((fget f (tog u k)).getD (-1)) = ((e + 1 : Nat) : Int) - 1)) hk2
    have S56 := S5.trans S6
    refine ⟨wipe1, .ref dd, rfl, dd, rfl, isD_dT (S56 _ _ hdd), .ref ah, rfl, .int k2, rfl, ah, n, k2, u, rfl, tu.to S56, gu, gw.n7, fun H7 p7 S7 t7 => ?_⟩
    have S67 := S56.trans S7
    refine ⟨1, rfl, _, dget_enc (S67 _ _ hdd) t7, ?_⟩
    rw [show (-1 : Int) = -1 from rfl, getD_map]
    refine ⟨.ref dd, rfl, .ref ah, rfl, dd, .int ((e + 1 : Nat) : Int), rfl, dget_in (S67 _ _ hdd) (tu.to S67) DT.nd ((DT.all u _).mpr ⟨_, rfl, iu⟩), _, 1, rfl, rfl, rfl, _, rfl, ?_⟩
    have dec : decide (V.int ((fget f (tog u k2)).getD (-1)) = V.int (((e + 1 : Nat) : Int) - 1)) = decide (((fget f (tog u k2)).getD (-1)) = ((e + 1 : Nat) : Int) - 1) := by
      simp
    rw [dec]
    have l1 := List.length_filter_le (fun k => decide (((fget f (tog u k)).getD (-1)) = ((e + 1 : Nat) : Int) - 1)) ((doab n ar u).take i)
    rw [List.length_take] at l1
    have hC7 := S7 _ _ hC
    cases c : decide (((fget f (tog u k2)).getD (-1)) = ((e + 1 : Nat) : Int) - 1) with
    | true =>
      refine iteT ⟨.int k2, rfl, _, hC7, by rw [List.length_map]; exact small1000 (by omega), (S6.trans S7).put nC, ?_⟩
      rw [upd_same, fl, c]
      simp
    | false =>
      refine iteF ⟨S6.trans S7, ?_⟩
      rw [hC7, fl, c]
      simp
  · obtain ⟨S6, hC⟩ := hP
    rw [List.length_map, List.take_length, ek] at hC
    have S56 := S5.trans S6
    have hfo6 := S56 _ _ hfo
    have few : wd.length ≤ 127 := by omega
    refine ⟨C, _, 0, .int k, rfl, rfl, lq hC, atI_nat (j := 0) rfl, ?_⟩
    refine ⟨.ref fo, rfl, .inl ⟨rfl, _, lq hfo6⟩, .int k, rfl, fo, _, _, rfl, rfl, hfo6, by rw [List.length_map]; exact small1000 (by omega), ?_⟩
    have tu7 := (tu.to S56).put hfo6 (o := .lst (wd.map V.int ++ [.int k]))
    refine ⟨_, rfl, _, rfl, ah, n, k, u, rfl, tu7, gu, gw.n7, fun H8 p8 S8 t8 => ?_⟩
    have ndf : dd ≠ fo := fun z => by
      rw [z, hfo] at hdd
      cases hdd
    refine ⟨e, Nat.lt_succ_self _, p8, tog u k, wd ++ [k], _, _, rfl, ((S4.trans S56).put nfo0).trans S8, S8 _ _ (by rw [upd_ne ndf]; exact S56 _ _ hdd), S8 _ _ (by rw [upd_same, map_snoc]), t8, gk, hw.snoc ck ok, ik, ?_⟩
    rw [List.length_append, List.length_singleton]
    omega
end
end PLW

/-! PLWl -/
set_option Elab.async false
set_option linter.all false
set_option maxRecDepth 100000
set_option maxHeartbeats 4000000
namespace PLW
open PySem PySem.Spec PyProof.Rows L2 PLM PLR
section
variable {P : Program} {w : World} {K : PySem.W.Frag} {mg : Str → Option Value} {base : Heap}
/-! ### counts_in, words_between -/
theorem sum_snoc : ∀ (l : List Int) (x : Int), (l ++ [x]).sum = l.sum + x
  | [], x => by simp
  | y :: l, x => by
    rw [List.cons_append, List.sum_cons, sum_snoc l x, List.sum_cons]
    omega
theorem sm_take {φ : S → Int} {g : List (S × Int)} {i : Nat} {e : S × Int} (h : g[i]? = some e) : sm φ (g.take (i + 1)) = sm φ (g.take i) + e.2 * φ e.1 := by
  rw [take_snoc h]
  simp only [sm, List.map_append, List.map_cons, List.map_nil]
  exact sum_snoc _ _
theorem cw_zero (n : Int) (ar : Ar) (t : S) : cw n ar t 0 = fun u => if u = t then 1 else 0 := by
  funext u
  rfl
theorem cw_succ (n : Int) (ar : Ar) (t : S) (m : Nat) (u : S) : cw n ar t (m + 1) u = ((doab n ar u).map fun k => cw n ar t m (tog u k)).sum := rfl
structure Ct (n : Int) (h : List (S × Int)) : Prop where
  nd : (h.map (·.1)).Nodup
  gd : ∀ s ∈ h.map (·.1), Good n s
theorem Ct.set {n : Int} {h : List (S × Int)} {t : S} {z : Int} (C : Ct n h) (g : Good n t) : Ct n (fset h t z) :=
  ⟨nd_fset C.nd, fun s hs => (mem_fset.mp hs).elim (C.gd s) fun e => e ▸ g⟩
def sp_counts_in : Sp := fun vs H Q _ => ∃ (wa b : Addr) (n : Int) (many : Nat) (ar : Ar) (s : S), vs = [.ref wa, .ref b, .int (many : Int)] ∧ WebAt H wa n ar ∧ Tp H b s ∧ Good n s ∧ many ≤ 20 ∧
  ∀ H' p g, Same H H' → H' p = some (.dT (enc g)) → Ct n g → (∀ t, wt g t = cw n ar t many s) → Q (.ref p) H'
abbrev N_counts_in : List PySem.Str := ["web", "burning", "many", "rows", "turn", "more", "here", "lamp", "there"]
theorem sc_counts_in : FnScope N_counts_in ["web", "burning", "many"] (defScope s_counts_in) := ⟨rfl, rfl, rfl, by decide +kernel, rfl, by decide +kernel, by decide +kernel⟩
-- deps: doable changed; slots: 0:web 1:burning 2:many 3:rows 4:turn 5:more 6:here 7:lamp 8:there
theorem ok_counts_in (F : Src K mg "counts_in" s_counts_in) (T : Txt mg) (D_doable : Def P w K mg base 2 "doable" ["web", "burning"] sp_doable) (D_changed : Def P w K mg base 1 "changed" ["burning", "lamp"] sp_changed) : Def P w K mg base 3 "counts_in" ["web", "burning", "many"] sp_counts_in := by
  refine mkDef F sc_counts_in (fun _ _ _ _ _ _ us hl => match us, hl with | [_, _, _], _ => rfl) (fun vs H Q E h => ?_) (fun f cdv A outer s H vs Q E hr h => ?_)
  · first | (obtain ⟨_, rfl, _⟩ := h; rfl) | (obtain ⟨_, _, rfl, _⟩ := h; rfl) | (obtain ⟨_, _, _, rfl, _⟩ := h; rfl) | (obtain ⟨_, _, _, _, rfl, _⟩ := h; rfl) | (obtain ⟨_, _, _, _, _, rfl, _⟩ := h; rfl) | (obtain ⟨_, _, _, _, _, _, rfl, _⟩ := h; rfl) | (obtain ⟨_, _, _, _, _, _, _, rfl, _⟩ := h; rfl) | (obtain ⟨_, _, _, _, _, _, _, _, rfl, _⟩ := h; rfl) | (obtain ⟨_, _, _, _, _, _, _, _, _, rfl, _⟩ := h; rfl) | (obtain ⟨_, _, _, _, _, _, _, _, _, _, rfl, _⟩ := h; rfl) | (obtain ⟨_, _, _, _, _, _, _, _, _, _, _, rfl, _⟩ := h; rfl)
  obtain ⟨wa, b, n, many, ar, s0, rfl, W, hb, g0, m20, q⟩ := h
  have gw := W.gw
  have nd := sc_counts_in.nd
  refine ⟨_, (pss_cons (ps_set (i := 3) nd rfl (.inl rfl) (pe_dispT (hu_of hr) (pv 1) pe_int))
      (pss_cons (ps_for PassesOwn.never rfl (pi_range1 (by rfl) T.b_range (pa_cons (pv 2) pa_nil)) (pg_name (i := 4) nd rfl (.inl rfl)) (pss_cons (ps_set (i := 5) nd rfl (.inl rfl) pe_dnewT)
      (pss_cons (ps_lock (ps_for PassesOwn.never rfl (pi_keysT (pv 3)) (pg_name (i := 6) nd rfl (.inl rfl)) (pss_one (ps_for PassesOwn.never rfl (pi_listK (pc D_doable (hr.mono (by decide)) (pa_cons (pv 0) (pa_cons (pv 6) pa_nil)))) (pg_name (i := 7) nd rfl (.inl rfl)) (pss_cons (ps_set (i := 8) nd rfl (.inl rfl) (pc D_changed (hr.mono (by decide)) (pa_cons (pv 6) (pa_cons (pv 7) pa_nil))))
      (pss_one (ps_dput (hu_of hr) (pv 5) (pv 8) (pe_op op_add (pe_dget2 (hu_of hr) (pv 5) (pv 8) pe_int ⟨rfl, rfl, rfl, rfl⟩) (pe_dget (hu_of hr) (pv 3) (pv 6) (fun _ _ => rfl))) rfl)))))))
      (pss_one (ps_set (i := 3) nd rfl (.inl rfl) (pv 5))))))
      (pss_one (ps_ret (pv 3))))), ?_⟩
  refine fun pd npd => ⟨.ref b, rfl, upd_same, b, ky s0, rfl, (hb.to ((Same.refl H).new npd)).ky, ?_⟩
  have S0 := ((Same.refl H).new (o := .dT []) npd).put (o := .dT (enc [(s0, 1)])) npd
  refine ⟨.int (many : Int), rfl, _, rfl, by omega, by omega, ?_⟩
  rw [Int.toNat_natCast]
  refine for_range (fun i σ H' => ∃ (g : List (S × Int)) (pd : Addr) (y4 y5 y6 y7 y8 : Option V), σ = [some (.ref wa), some (.ref b), some (.int (many : Int)), some (.ref pd), y4, y5, y6, y7, y8] ∧ Same H H' ∧ H pd = none ∧ H' pd = some (.dT (enc g)) ∧ Ct n g ∧
    ∀ t, sm (cw n ar t (many - i)) g = cw n ar t many s0)
    ⟨[(s0, 1)], pd, none, none, none, none, none, rfl, S0, npd, upd_same, ⟨by simp, by simpa using g0⟩, fun t => by simp [sm]⟩ (fun i σ H1 hi hP => ?_) (fun σ H1 hP => ?_)
  · obtain ⟨g, pd, y4, y5, y6, y7, y8, rfl, S1, npd, hpd, C, inv⟩ := hP
    refine fun mo nmo => ?_
    have S2 := S1.new (o := .dT []) nmo
    have nmo0 := Same.free0 S1 nmo
    have hpd2 := up (u := .dT []) hpd nmo
    have npm : pd ≠ mo := ne_of_none hpd nmo
    refine ⟨pd, _, hpd2, trivial, fun od => ⟨.ref pd, rfl, pd, od, _, rfl, upd_same, ?_⟩⟩
    have S3 := S2.put (o := .frz od (.dT (enc g))) npd
    obtain ⟨r, hr⟩ : ∃ r, many - i = r + 1 := ⟨many - i - 1, by omega⟩
    refine for_it walk_keysT (fun i2 σ H' => ∃ (h : List (S × Int)) (y6 y7 y8 : Option V), σ = [some (.ref wa), some (.ref b), some (.int (many : Int)), some (.ref pd), some (.int (0 + (i : Int))), some (.ref mo), y6, y7, y8] ∧ Same H H' ∧ H' pd = some (.frz od (.dT (enc g))) ∧ H' mo = some (.dT (enc h)) ∧ Ct n h ∧
      ∀ t, sm (cw n ar t r) h = sm (cw n ar t (r + 1)) (g.take i2))
      ⟨[], y6, y7, y8, rfl, S3, upd_same, by rw [upd_ne npm.symm]; exact upd_same, ⟨by simp, by simp⟩, fun t => by simp [sm]⟩
      (fun i2 σ H' _ ⟨_, _, _, _, _, _, e, _⟩ => e) (fun i2 x σ H2 H2' hi2 hP hY => ?_) (fun σ H2 hP => ?_)
    · obtain ⟨h, y6, y7, y8, rfl, S4, hfz, hmo, Ch, inv2⟩ := hP
      obtain ⟨rfl, kk, vv, qa, e1, rfl, e3⟩ := hY
      rw [length_enc] at hi2
      obtain ⟨rfl, rfl⟩ := enc_at hi2 e1
      have tq1 := tp_ky e3
      have mem : (g[i2].1, g[i2].2) ∈ g := List.getElem_mem hi2
      have gu : Good n g[i2].1 := C.gd _ (List.mem_map_of_mem (f := (·.1)) mem)
      refine ⟨_, rfl, _, rfl, wa, qa, n, ar, g[i2].1, rfl, W.to S4, tq1, gu, fun H3 p3 S5 n3 e3 => ⟨p3, rfl, ⟨_, lq e3⟩, ?_⟩⟩
      have n3m := ne_of_none hmo n3
      refine for_list (K := K) (a := p3) (xs := (doab n ar g[i2].1).map V.int) (fun i3 σ H' => ∃ (h : List (S × Int)) (y7 y8 : Option V), σ = [some (.ref wa), some (.ref b), some (.int (many : Int)), some (.ref pd), some (.int (0 + (i : Int))), some (.ref mo), some (.ref qa), y7, y8] ∧ Same H H' ∧ H' pd = some (.frz od (.dT (enc g))) ∧ H' mo = some (.dT (enc h)) ∧ Ct n h ∧
        H' p3 = some (.lst ((doab n ar g[i2].1).map V.int)) ∧ Tp H' qa g[i2].1 ∧ ∀ t, sm (cw n ar t r) h = sm (cw n ar t (r + 1)) (g.take i2) + g[i2].2 * (((doab n ar g[i2].1).take i3).map fun k => cw n ar t r (tog g[i2].1 k)).sum)
        ⟨h, y7, y8, rfl, S4.trans S5, S5 _ _ hfz, S5 _ _ hmo, Ch, e3, tq1.to S5, fun t => by rw [inv2 t]; simp⟩
        (fun i3 σ H' _ ⟨_, _, _, _, _, _, _, _, e, _⟩ => lq e) (fun i3 v3 σ H4 hv3 hP => ?_) (fun σ H4 hP => ?_)
      · obtain ⟨h, y7, y8, rfl, S6, hfz, hmo, Ch, e4, tq4, inv3⟩ := hP
        obtain ⟨k, rfl, hk, km⟩ := get_ints hv3
        have can := (mem_doab gw gu).mp km
        have kr := can_rng gw gu can
        have gt := good_tog gu kr.1 kr.2
        refine ⟨_, rfl, _, rfl, qa, n, k, g[i2].1, rfl, tq4, gu, gw.n7, fun H5 p5 S7 t5 => ?_⟩
        have few := few_keys gw.n7 Ch.nd Ch.gd
        obtain ⟨o, dg, od'⟩ := dget_wt (S7 _ _ hmo) t5
        refine ⟨.ref mo, rfl, mo, rfl, isD_dT (S7 _ _ hmo), .ref p5, rfl, o, dg, .ref pd, rfl, .ref qa, rfl, pd, .int g[i2].2, rfl, dget_frz (S7 _ _ hfz) (tq4.to S7) C.nd mem, _, _, od', rfl, ?_⟩
        refine ⟨.ref mo, rfl, .ref p5, rfl, mo, _, rfl, dput_fset (S7 _ _ hmo) t5 Ch.nd (by omega), ?_⟩
        refine ⟨_, _, _, rfl, (S6.trans S7).put nmo0, by rw [upd_ne npm]; exact S7 _ _ hfz, upd_same, Ch.set gt, by rw [upd_ne n3m.symm]; exact S7 _ _ e4, (tq4.to S7).put (S7 _ _ hmo), fun t => ?_⟩
        rw [sm_fset, inv3 t, take_snoc hk, List.map_append, List.map_cons, List.map_nil, sum_snoc, Int.mul_add]
        omega
      · obtain ⟨h, y7, y8, rfl, S6, hfz, hmo, Ch, e4, tq4, inv3⟩ := hP
        refine ⟨h, _, _, _, rfl, S6, hfz, hmo, Ch, fun t => ?_⟩
        rw [inv3 t, List.length_map, List.take_length, sm_take (List.getElem?_eq_getElem hi2), cw_succ]
    · obtain ⟨h, y6, y7, y8, rfl, S4, hfz, hmo, Ch, inv2⟩ := hP
      refine ⟨hfz, .ref mo, rfl, h, mo, _, _, _, _, _, rfl, S4.put npd, nmo0, by rw [upd_ne npm.symm]; exact hmo, Ch, fun t => ?_⟩
      have e : many - (i + 1) = r := by omega
      rw [e, inv2 t, length_enc, List.take_length, ← hr, inv t]
  · obtain ⟨g, pd, y4, y5, y6, y7, y8, rfl, S1, npd, hpd, C, inv⟩ := hP
    refine ⟨.ref pd, rfl, q _ pd g S1 hpd C fun t => ?_⟩
    have := inv t
    rw [Nat.sub_self, cw_zero, sm_at C.nd] at this
    exact this
def sp_words_between : Sp := fun vs H Q _ => ∃ (wa a b : Addr) (n : Int) (many : Nat) (ar : Ar) (s t : S), vs = [.ref wa, .ref a, .ref b, .int (many : Int)] ∧ WebAt H wa n ar ∧ Tp H a s ∧ Good n s ∧ Tp H b t ∧ Good n t ∧ many ≤ 20 ∧
  ∀ H', Same H H' → Q (.int (cw n ar t many s)) H'
abbrev N_words_between : List PySem.Str := ["web", "one", "other", "many"]
theorem sc_words_between : FnScope N_words_between ["web", "one", "other", "many"] (defScope s_words_between) := ⟨rfl, rfl, rfl, by decide +kernel, rfl, by decide +kernel, by decide +kernel⟩
-- deps: need_both need_burning need_deeds counts_in; slots: 0:web 1:one 2:other 3:many
theorem ok_words_between (F : Src K mg "words_between" s_words_between) (T : Txt mg) (D_need_both : Def P w K mg base 4 "need_both" ["web", "burning"] sp_need_both) (D_need_burning : Def P w K mg base 2 "need_burning" ["web", "burning"] sp_need_burning) (D_need_deeds : Def P w K mg base 2 "need_deeds" ["many"] sp_need_deeds) (D_counts_in : Def P w K mg base 3 "counts_in" ["web", "burning", "many"] sp_counts_in) : Def P w K mg base 5 "words_between" ["web", "one", "other", "many"] sp_words_between := by
  refine mkDef F sc_words_between (fun _ _ _ _ _ _ us hl => match us, hl with | [_, _, _, _], _ => rfl) (fun vs H Q E h => ?_) (fun f cdv A outer s H vs Q E hr h => ?_)
  · first | (obtain ⟨_, rfl, _⟩ := h; rfl) | (obtain ⟨_, _, rfl, _⟩ := h; rfl) | (obtain ⟨_, _, _, rfl, _⟩ := h; rfl) | (obtain ⟨_, _, _, _, rfl, _⟩ := h; rfl) | (obtain ⟨_, _, _, _, _, rfl, _⟩ := h; rfl) | (obtain ⟨_, _, _, _, _, _, rfl, _⟩ := h; rfl) | (obtain ⟨_, _, _, _, _, _, _, rfl, _⟩ := h; rfl) | (obtain ⟨_, _, _, _, _, _, _, _, rfl, _⟩ := h; rfl) | (obtain ⟨_, _, _, _, _, _, _, _, _, rfl, _⟩ := h; rfl) | (obtain ⟨_, _, _, _, _, _, _, _, _, _, rfl, _⟩ := h; rfl) | (obtain ⟨_, _, _, _, _, _, _, _, _, _, _, rfl, _⟩ := h; rfl)
  obtain ⟨wa, a, b, n, many, ar, s0, t0, rfl, W, ha, gs, hb, gt, m20, q⟩ := h
  have nd := sc_words_between.nd
  refine ⟨_, (pss_cons (ps_expr (pc D_need_both (hr.mono (by decide)) (pa_cons (pv 0) (pa_cons (pv 1) pa_nil))))
      (pss_cons (ps_expr (pc D_need_burning (hr.mono (by decide)) (pa_cons (pv 0) (pa_cons (pv 2) pa_nil))))
      (pss_cons (ps_expr (pc D_need_deeds (hr.mono (by decide)) (pa_cons (pv 3) pa_nil)))
      (pss_one (ps_ret (pe_dget2 (hu_of hr) (pc D_counts_in (hr.mono (by decide)) (pa_cons (pv 0) (pa_cons (pv 1) (pa_cons (pv 3) pa_nil)))) (pv 2) pe_int ⟨rfl, rfl, rfl, rfl⟩)))))), ?_⟩
  refine ⟨_, rfl, _, rfl, wa, a, n, ar, s0, rfl, W, ha, gs, fun H1 S1 => ?_⟩
  refine ⟨_, rfl, _, rfl, wa, b, n, ar, t0, rfl, W.to S1, hb.to S1, gt, fun H2 S2 => ?_⟩
  have S12 := S1.trans S2
  refine ⟨_, rfl, many, rfl, by omega, by omega, ?_⟩
  refine ⟨_, rfl, _, rfl, _, rfl, wa, a, n, many, ar, s0, rfl, W.to S12, ha.to S12, gs, m20, fun H3 p g S3 hp C e => ?_⟩
  have S13 := S12.trans S3
  obtain ⟨o, dg, od⟩ := dget_wt hp (hb.to S13)
  refine ⟨p, rfl, isD_dT hp, .ref b, rfl, o, dg, ?_⟩
  rw [od, e t0]
  exact q _ S13
end
end PLW

/-! PLWm -/
set_option Elab.async false
set_option linter.all false
set_option maxRecDepth 100000
set_option maxHeartbeats 4000000
namespace PLW
open PySem PySem.Spec PyProof.Rows L2 PLM PLR
section
variable {P : Program} {w : World} {K : PySem.W.Frag} {mg : Str → Option Value} {base : Heap}
/-! ### ways_count -/
def sp_ways_count : Sp := fun vs H Q _ => ∃ (wa a b : Addr) (n : Int) (ar : Ar) (s t : S), vs = [.ref wa, .ref a, .ref b] ∧ WebAt H wa n ar ∧ Tp H a s ∧ Good n s ∧ Tp H b t ∧ Good n t ∧
  ∀ H' z, Same H H' → (¬ Rc n ar s t → z = 0) → (∀ d : Nat, PLM.IsD (Rl n ar fun _ => True) s t d → z = cw n ar t d s) → Q (.int z) H'
theorem cw_off {n : Int} {ar : Ar} {t u v : S} {f : List (S × Int)} {e : Nat} (W : GW n ar) (D : DT (Rl n ar fun _ => True) t f) (gv : Good n v) (hu : PLM.IsD (Rl n ar fun _ => True) u t (e + 1)) (r : Rl n ar (fun _ => True) u v) (no : (fget f v).getD (-1) ≠ (e : Int)) : cw n ar t e v = 0 := by
  refine Classical.byContradiction fun h => no ?_
  have p := cw_pth W gv h
  obtain ⟨e', le, i⟩ := isD_of p
  have := hu.2 (e' + 1) ⟨v, r, i.1⟩
  have : e' = e := by omega
  subst this
  rw [(fget_some D.nd).mpr ((D.all _ _).mpr ⟨e', rfl, i⟩)]
  rfl
theorem isD_got {R : S → S → Prop} {t v : S} {f : List (S × Int)} {e : Nat} (D : DT R t f) (h : (fget f v).getD (-1) = (e : Int)) : PLM.IsD R v t e := by
  cases q : fget f v with
  | none => rw [q] at h; simp only [Option.getD_none] at h; omega
  | some z =>
    rw [q] at h
    simp only [Option.getD_some] at h
    obtain ⟨d, hd, i⟩ := (D.all _ _).mp ((fget_some D.nd).mp q)
    have : d = e := by omega
    exact this ▸ i
abbrev N_ways_count : List PySem.Str := ["web", "one", "other", "told", "rows", "left", "more", "here", "lamp", "there"]
theorem sc_ways_count : FnScope N_ways_count ["web", "one", "other"] (defScope s_ways_count) := ⟨rfl, rfl, rfl, by decide +kernel, rfl, by decide +kernel, by decide +kernel⟩
-- deps: need_two comes_in steps_to doable changed; slots: 0:web 1:one 2:other 3:told 4:rows 5:left 6:more 7:here 8:lamp 9:there
theorem ok_ways_count (F : Src K mg "ways_count" s_ways_count) (T : Txt mg) (D_need_two : Def P w K mg base 5 "need_two" ["web", "one", "other"] sp_need_two) (D_comes_in : Def P w K mg base 2 "comes_in" ["web", "one", "other"] sp_comes_in) (D_steps_to : Def P w K mg base 4 "steps_to" ["web", "burning"] sp_steps_to) (D_doable : Def P w K mg base 2 "doable" ["web", "burning"] sp_doable) (D_changed : Def P w K mg base 1 "changed" ["burning", "lamp"] sp_changed) : Def P w K mg base 6 "ways_count" ["web", "one", "other"] sp_ways_count := by
  refine mkDef F sc_ways_count (fun _ _ _ _ _ _ us hl => match us, hl with | [_, _, _], _ => rfl) (fun vs H Q E h => ?_) (fun f cdv A outer s H vs Q E hr h => ?_)
  · first | (obtain ⟨_, rfl, _⟩ := h; rfl) | (obtain ⟨_, _, rfl, _⟩ := h; rfl) | (obtain ⟨_, _, _, rfl, _⟩ := h; rfl) | (obtain ⟨_, _, _, _, rfl, _⟩ := h; rfl) | (obtain ⟨_, _, _, _, _, rfl, _⟩ := h; rfl) | (obtain ⟨_, _, _, _, _, _, rfl, _⟩ := h; rfl) | (obtain ⟨_, _, _, _, _, _, _, rfl, _⟩ := h; rfl) | (obtain ⟨_, _, _, _, _, _, _, _, rfl, _⟩ := h; rfl) | (obtain ⟨_, _, _, _, _, _, _, _, _, rfl, _⟩ := h; rfl) | (obtain ⟨_, _, _, _, _, _, _, _, _, _, rfl, _⟩ := h; rfl) | (obtain ⟨_, _, _, _, _, _, _, _, _, _, _, rfl, _⟩ := h; rfl)
  obtain ⟨wa, a, b, n, ar, s0, t0, rfl, W, ha, gs, hb, gt, q⟩ := h
  have gw := W.gw
  have hR : ∀ s t, Rl n ar (fun _ => True) s t → Good n t := fun s t r => r.2.1
  have nd := sc_ways_count.nd
  refine ⟨_, (pss_cons (ps_expr (pc D_need_two (hr.mono (by decide)) (pa_cons (pv 0) (pa_cons (pv 1) (pa_cons (pv 2) pa_nil)))))
      (pss_cons (ps_if (pt_not (pt_val (pc D_comes_in (hr.mono (by decide)) (pa_cons (pv 0) (pa_cons (pv 1) (pa_cons (pv 2) pa_nil)))))) (pss_one (ps_ret pe_int)) pss_nil)
      (pss_cons (ps_par (i := 3) (j := 4) (by rfl) nd rfl rfl (by decide) rfl rfl (pa_cons (pc D_steps_to (hr.mono (by decide)) (pa_cons (pv 0) (pa_cons (pv 2) pa_nil))) (pa_cons (pe_dispT (hu_of hr) (pv 1) pe_int) pa_nil)) (by rfl))
      (pss_cons (ps_for PassesOwn.never rfl (pi_range3 (by rfl) T.b_range (pa_cons (pe_dget (hu_of hr) (pv 3) (pv 1) (fun _ _ => rfl)) (pa_cons pe_int (pa_cons (pe_un un_neg pe_int) pa_nil)))) (pg_name (i := 5) nd rfl (.inl rfl)) (pss_cons (ps_set (i := 6) nd rfl (.inl rfl) pe_dnewT)
      (pss_cons (ps_lock (ps_for PassesOwn.never rfl (pi_keysT (pv 4)) (pg_name (i := 7) nd rfl (.inl rfl)) (pss_one (ps_for PassesOwn.never rfl (pi_listK (pc D_doable (hr.mono (by decide)) (pa_cons (pv 0) (pa_cons (pv 7) pa_nil)))) (pg_name (i := 8) nd rfl (.inl rfl)) (pss_cons (ps_set (i := 9) nd rfl (.inl rfl) (pc D_changed (hr.mono (by decide)) (pa_cons (pv 7) (pa_cons (pv 8) pa_nil))))
      (pss_one (ps_if (pt_cmpR op_eq (pe_dget2 (hu_of hr) (pv 3) (pv 9) (pe_un un_neg pe_int) ⟨rfl, rfl, rfl, rfl⟩) (pe_op op_sub (pv 5) pe_int) (nomark _)) (pss_one (ps_dput (hu_of hr) (pv 6) (pv 9) (pe_op op_add (pe_dget2 (hu_of hr) (pv 6) (pv 9) pe_int ⟨rfl, rfl, rfl, rfl⟩) (pe_dget (hu_of hr) (pv 4) (pv 7) (fun _ _ => rfl))) rfl)) pss_nil)))))))
      (pss_one (ps_set (i := 4) nd rfl (.inl rfl) (pv 6))))))
      (pss_one (ps_ret (pe_dget (hu_of hr) (pv 4) (pv 2) (fun _ _ => rfl)))))))), ?_⟩
  refine ⟨_, rfl, _, rfl, _, rfl, wa, a, b, n, ar, s0, t0, rfl, W, ha, gs, hb, gt, fun H1 S1 => ?_⟩
  refine ⟨_, rfl, _, rfl, _, rfl, wa, a, b, n, ar, s0, t0, rfl, W.to S1, ha.to S1, gs, hb.to S1, gt, fun H2 k S2 hk => ⟨k, rfl, ?_⟩⟩
  have S12 := S1.trans S2
  cases k with
  | false => exact iteT (q _ _ S12 (fun _ => rfl) fun d hd => absurd (hk.mpr ⟨d, hd.1⟩) Bool.false_ne_true)
  | true =>
  obtain ⟨m, hm⟩ := hk.mp rfl
  obtain ⟨d, _, hd⟩ := isD_of hm
  have d127 := isD_few gw.n7 gs hR hd
  refine iteF ⟨_, rfl, _, rfl, wa, b, n, ar, t0, rfl, W.to S12, hb.to S12, gt, fun H3 dd f ar' S3 ndd hf W' T D => ?_⟩
  have DT := D.turn gw W' T
  have S13 := S12.trans S3
  have ndd0 := Same.free0 S12 ndd
  refine fun pd npd => ⟨.ref a, rfl, upd_same, a, ky s0, rfl, (ha.to (S13.new npd)).ky, _, _, rfl, ?_⟩
  have npd0 := Same.free0 S13 npd
  have S4 := (S13.new (o := .dT []) npd).put (o := .dT (enc [(s0, 1)])) npd0
  have hf4 : upd (upd H3 pd (.dT [])) pd (.dT (enc [(s0, 1)])) dd = some (.dT (enc f)) := by
    rw [upd_ne (ne_of_none hf npd), upd_ne (ne_of_none hf npd)]
    exact hf
  refine ⟨.ref dd, rfl, .ref a, rfl, dd, .int (d : Int), rfl, dget_in hf4 (ha.to S4) DT.nd ((DT.all s0 _).mpr ⟨d, rfl, hd⟩), 1, rfl, (d : Int), 0, -1, d, rfl, ?_, ?_⟩
  · have := RgC.neg (i := (d : Int)) (j := 0) (by omega) (by omega) (by decide) (by decide)
    rw [show ((d : Int) - 0).toNat = d by omega] at this
    exact this
  refine for_rangeC (fun i σ H' => ∃ (g : List (S × Int)) (pd : Addr) (y5 y6 y7 y8 y9 : Option V), σ = [some (.ref wa), some (.ref a), some (.ref b), some (.ref dd), some (.ref pd), y5, y6, y7, y8, y9] ∧ Same H H' ∧ dd ≠ pd ∧ H pd = none ∧ H' dd = some (.dT (enc f)) ∧ H' pd = some (.dT (enc g)) ∧ Ct n g ∧
    (∀ u ∈ g.map (·.1), PLM.IsD (Rl n ar fun _ => True) u t0 (d - i)) ∧ sm (cw n ar t0 (d - i)) g = cw n ar t0 d s0)
    ⟨[(s0, 1)], pd, none, none, none, none, none, rfl, S4, ne_of_none hf npd, npd0, hf4, upd_same, ⟨by simp, by simpa using gs⟩, by simpa using hd, by simp [sm]⟩ (fun i σ H1 hi hP => ?_) (fun σ H1 hP => ?_)
  · obtain ⟨g, pd, y5, y6, y7, y8, y9, rfl, S1, edp, npd, hdd, hpd, C, lev, inv⟩ := hP
    refine fun mo nmo => ?_
    have S2 := S1.new (o := .dT []) nmo
    have nmo0 := Same.free0 S1 nmo
    have hpd2 := up (u := .dT []) hpd nmo
    have npm : pd ≠ mo := ne_of_none hpd nmo
    have ndm : dd ≠ mo := ne_of_none hdd nmo
    obtain ⟨r, hr⟩ : ∃ r, d - i = r + 1 := ⟨d - i - 1, by omega⟩
    rw [hr] at lev inv
    refine ⟨pd, _, hpd2, trivial, fun od => ⟨.ref pd, rfl, pd, od, _, rfl, upd_same, ?_⟩⟩
    have S3 := S2.put (o := .frz od (.dT (enc g))) npd
    refine for_it walk_keysT (fun i2 σ H' => ∃ (h : List (S × Int)) (y7 y8 y9 : Option V), σ = [some (.ref wa), some (.ref a), some (.ref b), some (.ref dd), some (.ref pd), some (.int ((d : Int) + (i : Int) * -1)), some (.ref mo), y7, y8, y9] ∧ Same H H' ∧ H' dd = some (.dT (enc f)) ∧ H' pd = some (.frz od (.dT (enc g))) ∧ H' mo = some (.dT (enc h)) ∧ Ct n h ∧
      (∀ u ∈ h.map (·.1), PLM.IsD (Rl n ar fun _ => True) u t0 r) ∧ sm (cw n ar t0 r) h = sm (cw n ar t0 (r + 1)) (g.take i2))
      ⟨[], y7, y8, y9, rfl, S3, by rw [upd_ne edp]; exact up hdd nmo, upd_same, by rw [upd_ne npm.symm]; exact upd_same, ⟨by simp, by simp⟩, by simp, by simp [sm]⟩
      (fun i2 σ H' _ ⟨_, _, _, _, _, _, _, e, _⟩ => e) (fun i2 x σ H2 H2' hi2 hP hY => ?_) (fun σ H2 hP => ?_)
    · obtain ⟨h, y7, y8, y9, rfl, S4, hdd, hfz, hmo, Ch, lev2, inv2⟩ := hP
      obtain ⟨rfl, kk, vv, qa, e1, rfl, e3⟩ := hY
      rw [length_enc] at hi2
      obtain ⟨rfl, rfl⟩ := enc_at hi2 e1
      have tq1 := tp_ky e3
      have mem : (g[i2].1, g[i2].2) ∈ g := List.getElem_mem hi2
      have gu : Good n g[i2].1 := C.gd _ (List.mem_map_of_mem (f := (·.1)) mem)
      have iu := lev _ (List.mem_map_of_mem (f := (·.1)) mem)
      refine ⟨_, rfl, _, rfl, wa, qa, n, ar, g[i2].1, rfl, W.to S4, tq1, gu, fun H3 p3 S5 n3 e3 => ⟨p3, rfl, ⟨_, lq e3⟩, ?_⟩⟩
      have n3m := ne_of_none hmo n3
      refine for_list (K := K) (a := p3) (xs := (doab n ar g[i2].1).map V.int) (fun i3 σ H' => ∃ (h : List (S × Int)) (y8 y9 : Option V), σ = [some (.ref wa), some (.ref a), some (.ref b), some (.ref dd), some (.ref pd), some (.int ((d : Int) + (i : Int) * -1)), some (.ref mo), some (.ref qa), y8, y9] ∧ Same H H' ∧ H' dd = some (.dT (enc f)) ∧ H' pd = some (.frz od (.dT (enc g))) ∧ H' mo = some (.dT (enc h)) ∧ Ct n h ∧
        H' p3 = some (.lst ((doab n ar g[i2].1).map V.int)) ∧ Tp H' qa g[i2].1 ∧ (∀ u ∈ h.map (·.1), PLM.IsD (Rl n ar fun _ => True) u t0 r) ∧ sm (cw n ar t0 r) h = sm (cw n ar t0 (r + 1)) (g.take i2) + g[i2].2 * (((doab n ar g[i2].1).take i3).map fun k => cw n ar t0 r (tog g[i2].1 k)).sum)
        ⟨h, y8, y9, rfl, S4.trans S5, S5 _ _ hdd, S5 _ _ hfz, S5 _ _ hmo, Ch, e3, tq1.to S5, lev2, by rw [inv2]; simp⟩
        (fun i3 σ H' _ ⟨_, _, _, _, _, _, _, _, _, e, _⟩ => lq e) (fun i3 v3 σ H4 hv3 hP => ?_) (fun σ H4 hP => ?_)
      · obtain ⟨h, y8, y9, rfl, S6, hdd, hfz, hmo, Ch, e4, tq4, lev3, inv3⟩ := hP
        obtain ⟨k, rfl, hk, km⟩ := get_ints hv3
        have can := (mem_doab gw gu).mp km
        have kr := can_rng gw gu can
        have gtk := good_tog gu kr.1 kr.2
        refine ⟨_, rfl, _, rfl, qa, n, k, g[i2].1, rfl, tq4, gu, gw.n7, fun H5 p5 S7 t5 => ?_⟩
        have few := few_keys gw.n7 Ch.nd Ch.gd
        have stp : (((doab n ar g[i2].1).take (i3 + 1)).map fun k => cw n ar t0 r (tog g[i2].1 k)).sum = (((doab n ar g[i2].1).take i3).map fun k => cw n ar t0 r (tog g[i2].1 k)).sum + cw n ar t0 r (tog g[i2].1 k) := by
          rw [take_snoc hk, List.map_append, List.map_cons, List.map_nil, sum_snoc]
        refine ⟨.ref dd, rfl, dd, rfl, isD_dT (S7 _ _ hdd), .ref p5, rfl, 1, rfl, _, dget_enc (S7 _ _ hdd) t5, .int ((d : Int) + (i : Int) * -1), rfl, _, 1, rfl, rfl, ?_, _, rfl, ?_⟩
        · rw [getD_map]
          rfl
        rw [getD_map]
        have dec : decide (V.int ((fget f (tog g[i2].1 k)).getD (-1)) = V.int ((d : Int) + (i : Int) * -1 - 1)) = decide (((fget f (tog g[i2].1 k)).getD (-1)) = (r : Int)) := by
          have : (d : Int) + (i : Int) * -1 - 1 = (r : Int) := by omega
          rw [this]
          simp
        rw [dec]
        by_cases c : (fget f (tog g[i2].1 k)).getD (-1) = (r : Int)
        · rw [decide_eq_true c]
          obtain ⟨o, dg, od'⟩ := dget_wt (S7 _ _ hmo) t5
          refine iteT ⟨.ref mo, rfl, mo, rfl, isD_dT (S7 _ _ hmo), .ref p5, rfl, o, dg, .ref pd, rfl, .ref qa, rfl, pd, .int g[i2].2, rfl, dget_frz (S7 _ _ hfz) (tq4.to S7) C.nd mem, _, _, od', rfl, ?_⟩
          refine ⟨.ref mo, rfl, .ref p5, rfl, mo, _, rfl, dput_fset (S7 _ _ hmo) t5 Ch.nd (by omega), ?_⟩
          refine ⟨_, _, _, rfl, (S6.trans S7).put nmo0, by rw [upd_ne ndm]; exact S7 _ _ hdd, by rw [upd_ne npm]; exact S7 _ _ hfz, upd_same, Ch.set gtk, by rw [upd_ne n3m.symm]; exact S7 _ _ e4, (tq4.to S7).put (S7 _ _ hmo), fun v hv => ?_, ?_⟩
          · rcases mem_fset.mp hv with hv | rfl
            · exact lev3 v hv
            · exact isD_got DT c
          · rw [sm_fset, inv3, stp, Int.mul_add]
            omega
        · rw [decide_eq_false c]
          refine iteF ⟨h, _, _, rfl, S6.trans S7, S7 _ _ hdd, S7 _ _ hfz, S7 _ _ hmo, Ch, S7 _ _ e4, tq4.to S7, lev3, ?_⟩
          rw [stp, cw_off gw DT gtk iu ⟨gu, gtk, trivial, trivial, k, can, rfl⟩ c, Int.add_zero]
          exact inv3
      · obtain ⟨h, y8, y9, rfl, S6, hdd, hfz, hmo, Ch, e4, tq4, lev3, inv3⟩ := hP
        refine ⟨h, _, _, _, rfl, S6, hdd, hfz, hmo, Ch, lev3, ?_⟩
        rw [inv3, List.length_map, List.take_length, sm_take (List.getElem?_eq_getElem hi2), cw_succ]
    · obtain ⟨h, y7, y8, y9, rfl, S4, hdd, hfz, hmo, Ch, lev2, inv2⟩ := hP
      have e : d - (i + 1) = r := by omega
      rw [length_enc, List.take_length, inv] at inv2
      refine ⟨hfz, .ref mo, rfl, h, mo, _, _, _, _, _, rfl, S4.put npd, ndm, nmo0, by rw [upd_ne edp]; exact hdd, by rw [upd_ne npm.symm]; exact hmo, Ch, by rw [e]; exact lev2, by rw [e]; exact inv2⟩
  · obtain ⟨g, pd, y5, y6, y7, y8, y9, rfl, S1, edp, npd, hdd, hpd, C, lev, inv⟩ := hP
    rw [Nat.sub_self, cw_zero, sm_at C.nd] at inv
    have pos := cw_pos gw hd.1
    have tm : t0 ∈ g.map (·.1) := Classical.byContradiction fun h => by
      have := (sm_none h).2
      omega
    obtain ⟨e, he, et⟩ := List.mem_map.mp tm
    have mem : (t0, e.2) ∈ g := by rw [← et]; exact he
    have ew : wt g t0 = e.2 := by
      rw [wt_fget, (fget_some C.nd).mpr mem]
      rfl
    refine ⟨.ref pd, rfl, .ref b, rfl, pd, .int e.2, rfl, dget_in hpd (hb.to S1) C.nd mem, q _ _ S1 (fun h => absurd ⟨m, hm⟩ h) fun d' hd' => ?_⟩
    rw [hd'.uniq hd, ← inv, ew]
end
end PLW

/-! PLRs -/
set_option Elab.async false
set_option linter.all false
set_option maxRecDepth 100000
set_option maxHeartbeats 2000000
/-! The law's row: all but it stays. -/
namespace PLR
open PySem PySem.Spec PyProof.Rows L2 PLM
/-- all stays but what stands at r -/
def SX (r : Addr) (H H' : Hp) : Prop := ∀ b o, b ≠ r → H b = some o → H' b = some o
theorem SX.refl (r : Addr) (H : Hp) : SX r H H := fun _ _ _ h => h
theorem SX.trans {r : Addr} {H H1 H2 : Hp} (h : SX r H H1) (h' : SX r H1 H2) : SX r H H2 := fun b o n e => h' b o n (h b o n e)
theorem SX.of {r : Addr} {H H' : Hp} (h : Same H H') : SX r H H' := fun b o _ e => h b o e
theorem SX.at_ {r : Addr} {H H' : Hp} {o : HO} (h : SX r H H') : SX r H (upd H' r o) := fun b u n e => by
  rw [upd_ne n]
  exact h b u n e
theorem SX.new {r p : Addr} {H H' : Hp} {o : HO} (h : SX r H H') (np : H' p = none) : SX r H (upd H' p o) := h.trans (SX.of ((Same.refl H').new np))
theorem SX.put {r p : Addr} {H H' : Hp} {o : HO} (h : SX r H H') (np : H p = none) : SX r H (upd H' p o) := fun b u n e => by
  rw [upd_ne (ne_of_none e np)]
  exact h b u n e
theorem SX.free {r p : Addr} {H H' : Hp} (h : SX r H H') (np : H' p = none) (hr : H' r ≠ none) : H p = none := by
  cases e : H p with
  | none => rfl
  | some o =>
    have ne : p ≠ r := fun z => hr (z ▸ np)
    rw [h p o ne e] at np
    cases np
/-- at r the row over the script at sc -/
structure Row (K : PySem.W.Frag) (H : Hp) (r sc : Addr) (xs : List Int) : Prop where
  at_ : ∃ i m z : Int, 0 ≤ i ∧ H r = some (.lst [.ref sc, .int i, .int m, .int z])
  sq : (sc ≠ r ∧ Rd H sc (.lst (xs.map V.int))) ∨ ∃ (o : Obj) (its : Array Value) (n : Nat), K.lookup sc = some o ∧ o.cls = .type "list" ∧ o.dict = none ∧ o.data = .seq its n ∧ its.size ≤ sizeLine ∧ Vals (xs.map V.int) its.toList
theorem Row.sql {K : PySem.W.Frag} {H : Hp} {r sc : Addr} {xs : List Int} (R : Row K H r sc xs) : SqL K H sc (xs.map V.int) := R.sq.elim (fun h => .inl h.2) .inr
theorem rd_ne {H H' : Hp} {p : Addr} {u : HO} (h : Rd H p u) (k : ∀ o, H p = some o → H' p = some o) : Rd H' p u := by
  rcases h with h | ⟨o, h⟩
  · exact .inl (k _ h)
  · exact .inr ⟨o, k _ h⟩
theorem rd_some {H : Hp} {p : Addr} {u : HO} (h : Rd H p u) : H p ≠ none := by
  rcases h with h | ⟨o, h⟩ <;> (rw [h]; simp)
theorem Row.mk0 {K : PySem.W.Frag} {H : Hp} {r sc : Addr} {xs : List Int} {i m z : Int} (h : SqL K H sc (xs.map V.int)) (n : H r = none) (hi : 0 ≤ i) : Row K (upd H r (.lst [.ref sc, .int i, .int m, .int z])) r sc xs := by
  refine ⟨⟨i, m, z, hi, upd_same⟩, ?_⟩
  rcases h with h | h
  · exact .inl ⟨fun e => rd_some h (e ▸ n), rd_ne h fun o e => up e n⟩
  · exact .inr h
theorem Row.set {K : PySem.W.Frag} {H : Hp} {r sc : Addr} {xs : List Int} (R : Row K H r sc xs) {i m z : Int} (hi : 0 ≤ i) : Row K (upd H r (.lst [.ref sc, .int i, .int m, .int z])) r sc xs :=
  ⟨⟨i, m, z, hi, upd_same⟩, R.sq.imp_left fun h => ⟨h.1, rd_ne h.2 fun o e => by rw [upd_ne h.1]; exact e⟩⟩
theorem Row.to {K : PySem.W.Frag} {H H' : Hp} {r sc : Addr} {xs : List Int} (R : Row K H r sc xs) (S : Same H H') : Row K H' r sc xs := by
  obtain ⟨i, m, z, hi, e⟩ := R.at_
  exact ⟨⟨i, m, z, hi, S _ _ e⟩, R.sq.imp_left fun h => ⟨h.1, rd_ne h.2 fun o e => S _ _ e⟩⟩
theorem Row.some {K : PySem.W.Frag} {H : Hp} {r sc : Addr} {xs : List Int} (R : Row K H r sc xs) : H r ≠ none := by
  obtain ⟨i, m, z, hi, e⟩ := R.at_
  rw [e]
  simp
/-- a change at what was not there when the row was -/
theorem Row.put {K : PySem.W.Frag} {H0 H : Hp} {r sc p : Addr} {xs : List Int} {o : HO} (R : Row K H r sc xs) (R0 : Row K H0 r sc xs) (np : H0 p = none) : Row K (upd H p o) r sc xs := by
  obtain ⟨i, m, z, hi, e⟩ := R.at_
  refine ⟨⟨i, m, z, hi, by rw [upd_ne (show r ≠ p from fun z => R0.some (z ▸ np))]; exact e⟩, ?_⟩
  rcases R.sq with h | h
  · rcases R0.sq with h0 | h0
    · exact .inl ⟨h.1, rd_ne h.2 fun o e => by rw [upd_ne (show sc ≠ p from fun z => rd_some h0.2 (z ▸ np))]; exact e⟩
    · exact .inr h0
  · exact .inr h
/-- what is no list stays -/
theorem SX.keep {K : PySem.W.Frag} {r sc b : Addr} {xs : List Int} {H H' : Hp} {o : HO} (S : SX r H H') (R : Row K H r sc xs) (h : H b = Option.some o) (no : ∀ ys, o ≠ .lst ys := by intro ys z; cases z) : H' b = Option.some o := by
  refine S b o (fun e => ?_) h
  obtain ⟨i, m, z, hi, e2⟩ := R.at_
  rw [e, e2] at h
  exact no _ (Option.some.inj h).symm
theorem Tp.sx {K : PySem.W.Frag} {r sc b : Addr} {xs : List Int} {H H' : Hp} {s : S} (h : Tp H b s) (S : SX r H H') (R : Row K H r sc xs) : Tp H' b s := S.keep R h
theorem WebAt.sx {K : PySem.W.Frag} {r sc b : Addr} {xs : List Int} {H H' : Hp} {n : Int} {ar : Ar} (h : WebAt H b n ar) (S : SX r H H') (R : Row K H r sc xs) : WebAt H' b n ar := by
  obtain ⟨t, as, h1, h2, h3⟩ := h.ex
  exact ⟨⟨t, as, S.keep R h1, S.keep R h2, h3.1, fun i a e e1 e2 => S.keep R (h3.2 i a e e1 e2)⟩, h.gw⟩
end PLR

/-! PLWn -/
set_option Elab.async false
set_option linter.all false
set_option maxRecDepth 100000
set_option maxHeartbeats 4000000
namespace PLW
open PySem PySem.Spec PyProof.Rows L2 PLM PLR
section
variable {P : Program} {w : World} {K : PySem.W.Frag} {mg : Str → Option Value} {base : Heap}
/-! ### the law's own: taken, pick -/
def sp__law_taken (K : PySem.W.Frag) : Sp := fun vs H Q _ => ∃ (r sc : Addr) (xs : List Int) (many : Int), vs = [.ref r, .int many] ∧ Row K H r sc xs ∧ xs.length ≤ 63 ∧ 0 < many ∧ many < 1000000 ∧ ∀ H' k, SX r H H' → Row K H' r sc xs → 0 ≤ k → k < many → Q (.int k) H'
theorem at_pos {ns : List Int} {i : Int} (h0 : 0 ≤ i) (h1 : i < (ns.length : Int)) : ∃ z, atI (ns.map V.int) i = some (.int z) := by
  obtain ⟨j, rfl⟩ := Int.eq_ofNat_of_zero_le h0
  have hj : j < ns.length := by simpa using h1
  exact ⟨ns[j], atI_nat (j := j) (by rw [List.getElem?_map, List.getElem?_eq_getElem hj]; rfl)⟩
abbrev N__law_taken : List PySem.Str := ["_law_row", "_law_many", "_law_found", "_law_cell"]
theorem sc__law_taken : FnScope N__law_taken ["_law_row", "_law_many"] (defScope s__law_taken) := ⟨rfl, rfl, rfl, by decide +kernel, rfl, by decide +kernel, by decide +kernel⟩
-- deps: ; slots: 0:_law_row 1:_law_many 2:_law_found 3:_law_cell
theorem ok__law_taken (F : Src K mg "_law_taken" s__law_taken) (T : Txt mg)  : Def P w K mg base 1 "_law_taken" ["_law_row", "_law_many"] (sp__law_taken K) := by
  refine mkDef F sc__law_taken (fun _ _ _ _ _ _ us hl => match us, hl with | [_, _], _ => rfl) (fun vs H Q E h => ?_) (fun f cdv A outer s H vs Q E hr h => ?_)
  · first | (obtain ⟨_, rfl, _⟩ := h; rfl) | (obtain ⟨_, _, rfl, _⟩ := h; rfl) | (obtain ⟨_, _, _, rfl, _⟩ := h; rfl) | (obtain ⟨_, _, _, _, rfl, _⟩ := h; rfl) | (obtain ⟨_, _, _, _, _, rfl, _⟩ := h; rfl) | (obtain ⟨_, _, _, _, _, _, rfl, _⟩ := h; rfl) | (obtain ⟨_, _, _, _, _, _, _, rfl, _⟩ := h; rfl) | (obtain ⟨_, _, _, _, _, _, _, _, rfl, _⟩ := h; rfl) | (obtain ⟨_, _, _, _, _, _, _, _, _, rfl, _⟩ := h; rfl) | (obtain ⟨_, _, _, _, _, _, _, _, _, _, rfl, _⟩ := h; rfl) | (obtain ⟨_, _, _, _, _, _, _, _, _, _, _, rfl, _⟩ := h; rfl)
  obtain ⟨r, sc, xs, many, rfl, R, l63, m0, m1, q⟩ := h
  obtain ⟨i, m, z, i0, e⟩ := R.at_
  have kk : ∀ x : Int, 0 ≤ x % many ∧ x % many < many := fun x => ⟨Int.emod_nonneg _ (by omega), Int.emod_lt_of_pos _ m0⟩
  have dv : CDivN z many := ⟨by omega, by omega⟩
  have nd := sc__law_taken.nd
  refine ⟨_, (pss_cons (ps_if (pt_cmpR op_gt (pe_ix ix_listK (pv 0) pe_int (fun _ _ => rfl)) pe_int (nomark _)) (pss_cons (ps_set (i := 2) nd rfl (.inl rfl) (pe_op op_mod (pe_callTy call_int1 (by rfl) T.b_int (by decide +kernel) (pa_cons (pe_ix ix_listK (pv 0) pe_int (fun _ _ => rfl)) pa_nil)) (pv 1)))
      (pss_cons (ps_asg (pe_op op_fdivN (pe_ix ix_listK (pv 0) pe_int (fun _ _ => rfl)) (pv 1)) (pg_sub (pv 0) pe_int set_list))
      (pss_one (ps_ret (pv 2))))) pss_nil)
      (pss_cons (ps_asg (pe_op op_add (pe_ix ix_listK (pv 0) pe_int (fun _ _ => rfl)) pe_int) (pg_sub (pv 0) pe_int set_list))
      (pss_cons (ps_if (pt_cmpR op_gt (pe_ix ix_listK (pv 0) pe_int (fun _ _ => rfl)) (pe_callB lenK (by rfl) T.b_len (by decide +kernel) (pa_cons (pe_ix ix_listK (pv 0) pe_int (fun _ _ => rfl)) pa_nil)) (nomark _)) (pss_cons (ps_asg (pe_op op_mod (pe_callTy call_int1 (by rfl) T.b_int (by decide +kernel) (pa_cons (pe_op op_add (pe_op op_mul (pe_ix ix_listK (pv 0) pe_int (fun _ _ => rfl)) pe_int) pe_int) pa_nil)) pe_int) (pg_sub (pv 0) pe_int set_list))
      (pss_one (ps_ret (pe_op op_mod (pe_callTy call_int1 (by rfl) T.b_int (by decide +kernel) (pa_cons (pe_op op_fdivN (pe_ix ix_listK (pv 0) pe_int (fun _ _ => rfl)) pe_int) pa_nil)) (pv 1))))) pss_nil)
      (pss_cons (ps_set (i := 3) nd rfl (.inl rfl) (pe_ix ix_listK (pe_ix ix_listK (pv 0) pe_int (fun _ _ => rfl)) (pe_op op_sub (pe_ix ix_listK (pv 0) pe_int (fun _ _ => rfl)) pe_int) (fun _ _ => rfl)))
      (pss_cons (ps_asg (pe_op op_mod (pe_callTy call_int1 (by rfl) T.b_int (by decide +kernel) (pa_cons (pe_op op_add (pe_op op_add (pe_op op_mul (pe_ix ix_listK (pv 0) pe_int (fun _ _ => rfl)) pe_int) (pv 3)) pe_int) pa_nil)) pe_int) (pg_sub (pv 0) pe_int set_list))
      (pss_cons (ps_if (pt_cmpR op_ge (pv 3) (pe_op op_pow pe_int pe_int) (nomark _)) (pss_one (ps_asg (pe_op op_fdivN (pv 3) (pv 1)) (pg_sub (pv 0) pe_int set_list))) pss_nil)
      (pss_one (ps_ret (pe_op op_mod (pe_callTy call_int1 (by rfl) T.b_int (by decide +kernel) (pa_cons (pv 3) pa_nil)) (pv 1)))))))))), ?_⟩
  refine ⟨.ref r, rfl, r, _, 3, .int z, rfl, rfl, lq e, atI_nat (j := 3) rfl, z, 0, rfl, rfl, _, rfl, ite2 (fun c => ?_) (fun c => ?_)⟩
  · refine ⟨.ref r, rfl, r, _, 3, .int z, rfl, rfl, lq e, atI_nat (j := 3) rfl, .inl ⟨z, rfl, .int many, rfl, z, many, rfl, rfl, m0, ?_⟩⟩
    refine ⟨.ref r, rfl, r, _, 3, .int z, rfl, rfl, lq e, atI_nat (j := 3) rfl, .int many, rfl, z, many, rfl, rfl, ⟨by omega, by omega⟩, .ref r, rfl, r, _, 3, 3, rfl, rfl, e, rfl, ?_⟩
    exact ⟨.int (z % many), rfl, q _ _ (SX.refl r H).at_ (R.set i0) (kk z).1 (kk z).2⟩
  · refine ⟨.ref r, rfl, r, _, 1, .int i, rfl, rfl, lq e, atI_nat (j := 1) rfl, i, 1, rfl, rfl, .ref r, rfl, r, _, 1, 1, rfl, rfl, e, rfl, ?_⟩
    have e1 : upd H r (.lst ([V.ref sc, .int i, .int m, .int z].set 1 (.int (i + 1)))) r = some (.lst [.ref sc, .int (i + 1), .int m, .int z]) := upd_same
    have R1 : Row K (upd H r (.lst ([V.ref sc, .int i, .int m, .int z].set 1 (.int (i + 1))))) r sc xs := R.set (by omega)
    have s1 := R1.sql
    refine ⟨.ref r, rfl, r, _, 1, .int (i + 1), rfl, rfl, lq e1, atI_nat (j := 1) rfl, .ref r, rfl, r, _, 0, .ref sc, rfl, rfl, lq e1, atI_nat (j := 0) rfl, sc, _, rfl, .inl s1, i + 1, _, rfl, rfl, _, rfl, ite2 (fun c => ?_) (fun c => ?_)⟩
    · refine ⟨.ref r, rfl, r, _, 2, .int m, rfl, rfl, lq e1, atI_nat (j := 2) rfl, m, 48271, rfl, rfl, .inr (by decide), _, 11, rfl, rfl, .inl ⟨_, rfl, _, _, rfl, rfl, (show (0 : Int) < 2147483647 by decide), .ref r, rfl, r, _, 2, 2, rfl, rfl, e1, rfl, ?_⟩⟩
      rw [upd_upd]
      have e2 : upd H r (.lst ([V.ref sc, .int (i + 1), .int m, .int z].set 2 (.int ((m * 48271 + 11) % 2147483647)))) r = some (.lst [.ref sc, .int (i + 1), .int ((m * 48271 + 11) % 2147483647), .int z]) := upd_same
      refine ⟨.ref r, rfl, r, _, 2, .int _, rfl, rfl, lq e2, atI_nat (j := 2) rfl, _, 7, rfl, rfl, ⟨by decide, by decide⟩, .inl ⟨_, rfl, .int many, rfl, _, many, rfl, rfl, m0, ?_⟩⟩
      exact q _ _ (SX.refl r H).at_ (R.set (by omega)) (kk _).1 (kk _).2
    · rw [decide_eq_true_eq, List.length_map] at c
      obtain ⟨cell, hc⟩ := at_pos (ns := xs) (i := i + 1 - 1) (by omega) (by omega)
      refine ⟨.ref r, rfl, r, _, 0, .ref sc, rfl, rfl, lq e1, atI_nat (j := 0) rfl, .ref r, rfl, r, _, 1, .int (i + 1), rfl, rfl, lq e1, atI_nat (j := 1) rfl, i + 1, 1, rfl, rfl, sc, _, i + 1 - 1, .int cell, rfl, rfl, s1, hc, ?_⟩
      refine ⟨.ref r, rfl, r, _, 2, .int m, rfl, rfl, lq e1, atI_nat (j := 2) rfl, m, 48271, rfl, rfl, .inr (by decide), .int cell, rfl, _, _, rfl, rfl, _, 11, rfl, rfl, .inl ⟨_, rfl, _, _, rfl, rfl, (show (0 : Int) < 2147483647 by decide), .ref r, rfl, r, _, 2, 2, rfl, rfl, e1, rfl, ?_⟩⟩
      rw [upd_upd]
      have e2 : upd H r (.lst ([V.ref sc, .int (i + 1), .int m, .int z].set 2 (.int ((m * 48271 + cell + 11) % 2147483647)))) r = some (.lst [.ref sc, .int (i + 1), .int ((m * 48271 + cell + 11) % 2147483647), .int z]) := upd_same
      refine ⟨.int cell, rfl, 10, 18, rfl, rfl, ⟨by decide, by decide, by decide⟩, cell, _, rfl, rfl, _, rfl, ite2 (fun c2 => ?_) (fun c2 => ?_)⟩
      · refine ⟨.int cell, rfl, .int many, rfl, cell, many, rfl, rfl, ⟨by omega, by omega⟩, .ref r, rfl, r, _, 3, 3, rfl, rfl, e2, rfl, ?_⟩
        rw [upd_upd]
        exact ⟨.int cell, rfl, .inl ⟨_, rfl, .int many, rfl, _, many, rfl, rfl, m0, q _ _ (SX.refl r H).at_ (R.set (by omega)) (kk _).1 (kk _).2⟩⟩
      · exact ⟨.int cell, rfl, .inl ⟨_, rfl, .int many, rfl, _, many, rfl, rfl, m0, q _ _ (SX.refl r H).at_ (R.set (by omega)) (kk _).1 (kk _).2⟩⟩
def sp__law_pick (K : PySem.W.Frag) : Sp := fun vs H Q _ => ∃ (r sc l : Addr) (xs : List Int) (ys : List V), vs = [.ref r, .ref l] ∧ Row K H r sc xs ∧ xs.length ≤ 63 ∧ l ≠ r ∧ H l = some (.lst ys) ∧ ys ≠ [] ∧ ys.length ≤ 1000 ∧ ∀ H' y, SX r H H' → Row K H' r sc xs → y ∈ ys → Q y H'
abbrev N__law_pick : List PySem.Str := ["_law_row", "_law_things"]
theorem sc__law_pick : FnScope N__law_pick ["_law_row", "_law_things"] (defScope s__law_pick) := ⟨rfl, rfl, rfl, by decide +kernel, rfl, by decide +kernel, by decide +kernel⟩
-- deps: _law_taken; slots: 0:_law_row 1:_law_things
theorem ok__law_pick (F : Src K mg "_law_pick" s__law_pick) (T : Txt mg) (D__law_taken : Def P w K mg base 1 "_law_taken" ["_law_row", "_law_many"] (sp__law_taken K)) : Def P w K mg base 2 "_law_pick" ["_law_row", "_law_things"] (sp__law_pick K) := by
  refine mkDef F sc__law_pick (fun _ _ _ _ _ _ us hl => match us, hl with | [_, _], _ => rfl) (fun vs H Q E h => ?_) (fun f cdv A outer s H vs Q E hr h => ?_)
  · first | (obtain ⟨_, rfl, _⟩ := h; rfl) | (obtain ⟨_, _, rfl, _⟩ := h; rfl) | (obtain ⟨_, _, _, rfl, _⟩ := h; rfl) | (obtain ⟨_, _, _, _, rfl, _⟩ := h; rfl) | (obtain ⟨_, _, _, _, _, rfl, _⟩ := h; rfl) | (obtain ⟨_, _, _, _, _, _, rfl, _⟩ := h; rfl) | (obtain ⟨_, _, _, _, _, _, _, rfl, _⟩ := h; rfl) | (obtain ⟨_, _, _, _, _, _, _, _, rfl, _⟩ := h; rfl) | (obtain ⟨_, _, _, _, _, _, _, _, _, rfl, _⟩ := h; rfl) | (obtain ⟨_, _, _, _, _, _, _, _, _, _, rfl, _⟩ := h; rfl) | (obtain ⟨_, _, _, _, _, _, _, _, _, _, _, rfl, _⟩ := h; rfl)
  obtain ⟨r, sc, l, xs, ys, rfl, R, l63, nlr, hl, ne, len, q⟩ := h
  have pos := List.length_pos_iff.mpr ne
  have nd := sc__law_pick.nd
  refine ⟨_, (pss_one (ps_ret (pe_ix ix_listK (pv 1) (pc D__law_taken (hr.mono (by decide)) (pa_cons (pv 0) (pa_cons (pe_callB lenK (by rfl) T.b_len (by decide +kernel) (pa_cons (pv 1) pa_nil)) pa_nil))) (fun _ _ => rfl)))), ?_⟩
  refine ⟨.ref l, rfl, _, rfl, .ref l, rfl, l, _, rfl, .inl (lq hl), r, sc, xs, _, rfl, R, l63, by omega, by omega, fun H1 k S1 R1 k0 k1 => ?_⟩
  obtain ⟨j, rfl⟩ := Int.eq_ofNat_of_zero_le k0
  have hj : j < ys.length := by simpa using k1
  exact ⟨l, ys, (j : Int), ys[j], rfl, rfl, lq (S1 _ _ nlr hl), atI_nat (List.getElem?_eq_getElem hj), q _ _ S1 R1 (List.getElem_mem hj)⟩
end
end PLW

/-! PLWo -/
set_option Elab.async false
set_option linter.all false
set_option maxRecDepth 100000
set_option maxHeartbeats 4000000
namespace PLW
open PySem PySem.Spec PyProof.Rows L2 PLM PLR
section
variable {P : Program} {w : World} {K : PySem.W.Frag} {mg : Str → Option Value} {base : Heap}
/-! ### the law's own: burning, changed, run, light, quench, after, word -/
def sp__law_burning (K : PySem.W.Frag) : Sp := fun vs H Q _ => ∃ (r sc : Addr) (xs : List Int) (n : Int), vs = [.ref r, .int n] ∧ Row K H r sc xs ∧ xs.length ≤ 63 ∧ 0 ≤ n ∧ n ≤ 7 ∧ ∀ H' p s, SX r H H' → Row K H' r sc xs → Tp H' p s → Good n s → Q (.ref p) H'
abbrev N__law_burning : List PySem.Str := ["_law_row", "_law_many", "_law_thin", "_law_k"]
theorem sc__law_burning : FnScope N__law_burning ["_law_row", "_law_many"] (defScope s__law_burning) := ⟨rfl, rfl, rfl, by decide +kernel, rfl, by decide +kernel, by decide +kernel⟩
-- deps: _law_pick _law_taken; slots: 0:_law_row(cell) 1:_law_many 2:_law_thin(cell) 3:_law_k
theorem ok__law_burning (F : Src K mg "_law_burning" s__law_burning) (T : Txt mg) (D__law_pick : Def P w K mg base 2 "_law_pick" ["_law_row", "_law_things"] (sp__law_pick K)) (D__law_taken : Def P w K mg base 1 "_law_taken" ["_law_row", "_law_many"] (sp__law_taken K)) : Def P w K mg base 3 "_law_burning" ["_law_row", "_law_many"] (sp__law_burning K) := by
  refine mkDef F sc__law_burning (fun _ _ _ _ _ _ us hl => match us, hl with | [_, _], _ => rfl) (fun vs H Q E h => ?_) (fun f cdv A outer s H vs Q E hr h => ?_)
  · first | (obtain ⟨_, rfl, _⟩ := h; rfl) | (obtain ⟨_, _, rfl, _⟩ := h; rfl) | (obtain ⟨_, _, _, rfl, _⟩ := h; rfl) | (obtain ⟨_, _, _, _, rfl, _⟩ := h; rfl) | (obtain ⟨_, _, _, _, _, rfl, _⟩ := h; rfl) | (obtain ⟨_, _, _, _, _, _, rfl, _⟩ := h; rfl) | (obtain ⟨_, _, _, _, _, _, _, rfl, _⟩ := h; rfl) | (obtain ⟨_, _, _, _, _, _, _, _, rfl, _⟩ := h; rfl) | (obtain ⟨_, _, _, _, _, _, _, _, _, rfl, _⟩ := h; rfl) | (obtain ⟨_, _, _, _, _, _, _, _, _, _, rfl, _⟩ := h; rfl) | (obtain ⟨_, _, _, _, _, _, _, _, _, _, _, rfl, _⟩ := h; rfl)
  obtain ⟨r, sc, xs, n, rfl, R, l63, n0, n7, q⟩ := h
  have nd := sc__law_burning.nd
  refine ⟨_, (pss_cons (ps_set (i := 2) nd rfl (.inr rfl) (pc D__law_pick (hr.mono (by decide)) (pa_cons (pv 0) (pa_cons (pe_lst (pa_cons pe_int (pa_cons pe_int (pa_cons pe_int pa_nil)))) pa_nil))))
      (pss_one (ps_ret (pe_callTy tupleK (by rfl) T.b_tuple (by decide +kernel) (pa_cons (pe_lc (own := [("_law_k", 3)]) (g := (gName 3)) (by rfl) nd (pi_range1 (by rfl) T.b_range (pa_cons (pv 1) pa_nil)) (blkK (own := [("_law_k", 3)]) (N := N__law_burning) (sc := defScope s__law_burning) (by decide +kernel)) (fun _ _ _ _ _ => (pg_name (i := 3) nd rfl (Or.inl rfl))) (fun _ _ _ _ _ => pts_one (pt_cmpR op_eq (pc D__law_taken (hr.mono (by decide)) (pa_cons (pv 0) (pa_cons (pv 2) pa_nil))) pe_int (nomark _))) (fun _ _ _ _ _ => (pv 3))) pa_nil))))), ?_⟩
  refine ⟨.ref r, rfl, by show 3 ≤ sizeLine; decide, fun l nl => ?_⟩
  have nlr : l ≠ r := fun e => R.some (e ▸ nl)
  have S0 := (Same.refl H).new (o := .lst [.int 2, .int 2, .int 4]) nl
  refine ⟨r, sc, l, xs, _, rfl, R.to S0, l63, nlr, upd_same, by simp, by decide, fun H1 y S1 R1 hy => ?_⟩
  obtain ⟨th, rfl, th0, th1⟩ : ∃ th : Int, y = .int th ∧ 0 < th ∧ th < 1000000 := by
    simp only [List.mem_cons, List.not_mem_nil, or_false] at hy
    rcases hy with rfl | rfl | rfl
    · exact ⟨2, rfl, by decide, by decide⟩
    · exact ⟨2, rfl, by decide, by decide⟩
    · exact ⟨4, rfl, by decide, by decide⟩
  have S1 := (SX.of S0).trans S1
  refine ⟨.int n, rfl, n, rfl, by omega, by omega, fun C nC => ?_⟩
  have nCr : C ≠ r := fun e => R1.some (e ▸ nC)
  have sC := (Same.refl H1).new (o := .lst []) nC
  refine lc_range (fun i H' => ∃ L : List Int, SX r H H' ∧ Row K H' r sc xs ∧ H' C = some (.lst (L.map V.int)) ∧ (∀ k ∈ L, 0 ≤ k ∧ k < (i : Int)) ∧ L.Pairwise (· < ·) ∧ L.length ≤ i)
    ⟨[], S1.trans (SX.of sC), R1.to sC, upd_same, by simp, .nil, Nat.zero_le _⟩ (fun i H2 hi hP => ?_) (fun H2 hP => ?_)
  · obtain ⟨L, S2, R2, hC, rng, asc, len⟩ := hP
    refine ⟨wipe1, _, rfl, _, rfl, r, sc, xs, th, rfl, R2, l63, th0, th1, fun H3 k S3 R3 k0 k1 => ⟨rfl, _, rfl, ite2 (fun c => ?_) (fun c => ?_)⟩⟩
    · have hC3 := S3 _ _ nCr hC
      have nC0 : H C = none := by
        refine SX.free S1 nC R1.some
      refine ⟨_, rfl, _, hC3, by rw [List.length_map]; exact small1000 (by omega), L ++ [(i : Int)], (S2.trans S3).put nC0, R3.put R1 nC, by rw [upd_same, Int.zero_add]; simp, fun j hj => ?_, ?_, ?_⟩
      · rcases List.mem_append.mp hj with h | h
        · have := rng j h
          omega
        · have := List.mem_singleton.mp h
          omega
      · rw [List.pairwise_append]
        refine ⟨asc, List.pairwise_singleton _ _, fun a ha b hb => ?_⟩
        have := rng a ha
        have := List.mem_singleton.mp hb
        omega
      · rw [List.length_append, List.length_singleton]
        omega
    · exact ⟨L, S2.trans S3, R3, S3 _ _ nCr hC, fun j hj => by have := rng j hj; omega, asc, by omega⟩
  · obtain ⟨L, S2, R2, hC, rng, asc, len⟩ := hP
    refine ⟨C, _, rfl, .inl ⟨lq hC, fun p np => ?_⟩⟩
    exact q _ p L (S2.new np) (R2.to ((Same.refl H2).new np)) upd_same ⟨asc, fun k hk => by have := rng k hk; omega⟩
def sp__law_changed : Sp := sp_changed
abbrev N__law_changed : List PySem.Str := ["_law_burning_here", "_law_lamp", "_law_k"]
theorem sc__law_changed : FnScope N__law_changed ["_law_burning_here", "_law_lamp"] (defScope s__law_changed) := ⟨rfl, rfl, rfl, by decide +kernel, rfl, by decide +kernel, by decide +kernel⟩
-- deps: ; slots: 0:_law_burning_here 1:_law_lamp(cell) 2:_law_k
theorem ok__law_changed (F : Src K mg "_law_changed" s__law_changed) (T : Txt mg)  : Def P w K mg base 1 "_law_changed" ["_law_burning_here", "_law_lamp"] sp__law_changed := by
  refine mkDef F sc__law_changed (fun _ _ _ _ _ _ us hl => match us, hl with | [_, _], _ => rfl) (fun vs H Q E h => ?_) (fun f cdv A outer s H vs Q E hr h => ?_)
  · first | (obtain ⟨_, rfl, _⟩ := h; rfl) | (obtain ⟨_, _, rfl, _⟩ := h; rfl) | (obtain ⟨_, _, _, rfl, _⟩ := h; rfl) | (obtain ⟨_, _, _, _, rfl, _⟩ := h; rfl) | (obtain ⟨_, _, _, _, _, rfl, _⟩ := h; rfl) | (obtain ⟨_, _, _, _, _, _, rfl, _⟩ := h; rfl) | (obtain ⟨_, _, _, _, _, _, _, rfl, _⟩ := h; rfl) | (obtain ⟨_, _, _, _, _, _, _, _, rfl, _⟩ := h; rfl) | (obtain ⟨_, _, _, _, _, _, _, _, _, rfl, _⟩ := h; rfl) | (obtain ⟨_, _, _, _, _, _, _, _, _, _, rfl, _⟩ := h; rfl) | (obtain ⟨_, _, _, _, _, _, _, _, _, _, _, rfl, _⟩ := h; rfl)
  obtain ⟨b, n, k, s0, rfl, hb, g, n7, q⟩ := h
  have len := good_len g
  have nd := sc__law_changed.nd
  refine ⟨_, (pss_cons (ps_if (pt_cmpR op_inK (pv 1) (pv 0) (by rfl)) (pss_one (ps_ret (pe_callTy tupleK (by rfl) T.b_tuple (by decide +kernel) (pa_cons (pe_lc (own := [("_law_k", 2)]) (g := (gName 2)) (by rfl) nd (pi_tupK (pv 0)) (blkK (own := [("_law_k", 2)]) (N := N__law_changed) (sc := defScope s__law_changed) (by decide +kernel)) (fun _ _ _ _ _ => (pg_name (i := 2) nd rfl (Or.inl rfl))) (fun _ _ _ _ _ => pts_one (pt_cmpR op_ne (pv 2) (pv 1) (nomark _))) (fun _ _ _ _ _ => (pv 2))) pa_nil)))) pss_nil)
      (pss_one (ps_ret (pe_callTy tupleK (by rfl) T.b_tuple (by decide +kernel) (pa_cons (pe_callB sortedK (by rfl) T.b_sorted (by decide +kernel) (pa_cons (pe_op op_cat (pe_callTy listK (by rfl) T.b_list (by decide +kernel) (pa_cons (pv 0) pa_nil)) (pe_lst (pa_cons (pv 1) pa_nil))) pa_nil)) pa_nil))))), ?_⟩
  refine ⟨.int k, rfl, .ref b, rfl, b, _, rfl, .inr hb.sq, rfl, flat_ints s0, _, rfl, ?_⟩
  rw [if_neg Bool.false_ne_true, inV_ints]
  by_cases hk : k ∈ s0
  · rw [decide_eq_true hk]
    refine iteT ⟨.ref b, rfl, b, rfl, ⟨_, hb.sq⟩, fun D hD => ?_⟩
    refine lc_pure (fun j => decide (j ≠ k)) (show 2 < 3 by decide) hD hb.sq (by omega) (fun j hj l Q' hq => ?_) ?_
    · refine ⟨.int j, rfl, .int k, rfl, rfl, _, rfl, ?_⟩
      have e : (!decide (V.int j = V.int k)) = decide (j ≠ k) := by simp
      rw [e]
      exact hq
    · refine ⟨D, _, rfl, .inl ⟨lq upd_same, fun p np => q _ p (((Same.refl H).new hD).new np) ?_⟩⟩
      rw [tog_in hk]
      exact upd_same
  · rw [decide_eq_false hk]
    refine iteF ⟨.ref b, rfl, b, _, rfl, .inr hb.sq, fun l nl => ⟨.int k, rfl, by show 1 ≤ sizeLine; decide, fun p np => ?_⟩⟩
    have S1 := (Same.refl H).new (o := .lst (s0.map V.int)) nl
    have S2 := S1.new (o := .lst [.int k]) np
    have el := up (u := .lst [.int k]) (show upd H l (.lst (s0.map V.int)) l = some _ from upd_same) np
    refine ⟨l, p, _, _, rfl, rfl, el, upd_same, by rw [List.length_map]; exact Nat.le_of_lt (small1000 (by show s0.length + 1 ≤ 1000; omega)), fun c nc => ?_⟩
    refine ⟨c, s0 ++ [k], rfl, lq (by rw [upd_same, ← map_snoc]), by rw [List.length_append]; show s0.length + 1 < 64; omega, fun L p2 hp hs np2 => ⟨p2, _, rfl, .inl ⟨lq upd_same, fun p3 np3 => q _ p3 (((S2.new nc).new np2).new np3) ?_⟩⟩⟩
    have nd0 : (s0 ++ [k]).Nodup := List.nodup_append.mpr ⟨asc_nodup g.1, by simp, fun x hx y hy e => by
      have : y = k := by simpa using hy
      subst this; subst e
      exact hk hx⟩
    have eL : L = tog s0 k := by
      refine asc_ext (perm_asc hp hs nd0) (asc_tog g.1) fun x => ?_
      rw [hp.mem_iff, tog_out hk, PLM.mem_ins, List.mem_append, List.mem_singleton]
      exact Or.comm
    rw [← eL]
    exact upd_same
def sp__law_run : Sp := fun vs H Q _ => ∃ (b v : Addr) (n : Int) (s : S) (wd : List Int), vs = [.ref b, .ref v] ∧ Tp H b s ∧ Good n s ∧ n ≤ 7 ∧ Tp H v wd ∧ (∀ k ∈ wd, 0 ≤ k ∧ k < n) ∧ ∀ H' p, Same H H' → Tp H' p (runs s wd) → Q (.ref p) H'
abbrev N__law_run : List PySem.Str := ["_law_burning_here", "_law_word_here", "_law_lamp"]
theorem sc__law_run : FnScope N__law_run ["_law_burning_here", "_law_word_here"] (defScope s__law_run) := ⟨rfl, rfl, rfl, by decide +kernel, rfl, by decide +kernel, by decide +kernel⟩
-- deps: _law_changed; slots: 0:_law_burning_here 1:_law_word_here 2:_law_lamp
theorem ok__law_run (F : Src K mg "_law_run" s__law_run) (T : Txt mg) (D__law_changed : Def P w K mg base 1 "_law_changed" ["_law_burning_here", "_law_lamp"] sp__law_changed) : Def P w K mg base 2 "_law_run" ["_law_burning_here", "_law_word_here"] sp__law_run := by
  refine mkDef F sc__law_run (fun _ _ _ _ _ _ us hl => match us, hl with | [_, _], _ => rfl) (fun vs H Q E h => ?_) (fun f cdv A outer s H vs Q E hr h => ?_)
  · first | (obtain ⟨_, rfl, _⟩ := h; rfl) | (obtain ⟨_, _, rfl, _⟩ := h; rfl) | (obtain ⟨_, _, _, rfl, _⟩ := h; rfl) | (obtain ⟨_, _, _, _, rfl, _⟩ := h; rfl) | (obtain ⟨_, _, _, _, _, rfl, _⟩ := h; rfl) | (obtain ⟨_, _, _, _, _, _, rfl, _⟩ := h; rfl) | (obtain ⟨_, _, _, _, _, _, _, rfl, _⟩ := h; rfl) | (obtain ⟨_, _, _, _, _, _, _, _, rfl, _⟩ := h; rfl) | (obtain ⟨_, _, _, _, _, _, _, _, _, rfl, _⟩ := h; rfl) | (obtain ⟨_, _, _, _, _, _, _, _, _, _, rfl, _⟩ := h; rfl) | (obtain ⟨_, _, _, _, _, _, _, _, _, _, _, rfl, _⟩ := h; rfl)
  obtain ⟨b, v, n, s0, wd, rfl, hb, g, n7, hv, rng, q⟩ := h
  have nd := sc__law_run.nd
  refine ⟨_, (pss_cons (ps_for PassesOwn.never rfl (pi_tupK (pv 1)) (pg_name (i := 2) nd rfl (.inl rfl)) (pss_one (ps_set (i := 0) nd rfl (.inl rfl) (pc D__law_changed (hr.mono (by decide)) (pa_cons (pv 0) (pa_cons (pv 2) pa_nil))))))
      (pss_one (ps_ret (pv 0)))), ?_⟩
  refine ⟨.ref v, rfl, v, rfl, ⟨_, hv.sq⟩, ?_⟩
  refine for_tup (K := K) (a := v) (xs := wd.map V.int) (fun i σ H' => ∃ (c : Addr) (y2 : Option V), σ = [some (.ref c), some (.ref v), y2] ∧ Same H H' ∧ Tp H' c (runs s0 (wd.take i)))
    ⟨b, none, rfl, Same.refl H, hb⟩ (fun i σ H' _ ⟨_, _, _, S, _⟩ => (hv.to S).sq) (fun i x σ H1 hx hP => ?_) (fun σ H1 hP => ?_)
  · obtain ⟨c, y2, rfl, S1, hc⟩ := hP
    obtain ⟨k, rfl, hk, km⟩ := get_ints hx
    refine ⟨_, rfl, _, rfl, c, n, k, _, rfl, hc, runs_good g fun j hj => rng j (List.mem_of_mem_take hj), n7, fun H2 p S2 t2 => ⟨p, _, rfl, S1.trans S2, ?_⟩⟩
    rw [take_snoc hk, runs_snoc]
    exact t2
  · obtain ⟨c, y2, rfl, S1, hc⟩ := hP
    rw [List.length_map, List.take_length] at hc
    exact ⟨_, rfl, q H1 c S1 hc⟩
theorem tup_shaped {α : Type} {f : α → PyData} (h : ∀ a, (f a).canLay0 = true) (h' : ∀ a, (f a).depth ≤ 3) (l : List α) : SeqAt.shaped (.tuple (l.map f)) = true := by
  refine shaped_of ?_ ?_
  · simp only [PyData.canLay0]
    exact lay_all h l
  · have := dep_all h' l
    simp only [PyData.depth]
    omega
def sp__law_light : Sp := fun vs H Q _ => ∃ (wa b : Addr) (n : Int) (ar : Ar) (s : S), vs = [.ref wa, .ref b] ∧ WebAt H wa n ar ∧ Tp H b s ∧ Good n s ∧
  ∀ H' p (L : List Int), Same H H' → H' p = some (.lst (L.map V.int)) → (∀ k ∈ L, 0 ≤ k ∧ k < n) → L.length ≤ 7 → Q (.ref p) H'
abbrev sin__law_light : Scope := { kind := .function, names := [(".0", .local), ("_law_k", .cell), ("_law_burning_here", .cell), ("_law_web_here", .cell)], isGenerator := false, isCoroutine := false }
abbrev N__law_light : List PySem.Str := ["_law_web_here", "_law_burning_here", "_law_k", "_law_one"]
theorem sc__law_light : FnScope N__law_light ["_law_web_here", "_law_burning_here"] (defScope s__law_light) := ⟨rfl, rfl, rfl, by decide +kernel, rfl, by decide +kernel, by decide +kernel⟩
-- deps: ; slots: 0:_law_web_here(cell) 1:_law_burning_here(cell) 2:_law_k 3:_law_one
theorem ok__law_light (F : Src K mg "_law_light" s__law_light) (T : Txt mg)  : Def P w K mg base 1 "_law_light" ["_law_web_here", "_law_burning_here"] sp__law_light := by
  refine mkDef F sc__law_light (fun _ _ _ _ _ _ us hl => match us, hl with | [_, _], _ => rfl) (fun vs H Q E h => ?_) (fun f cdv A outer s H vs Q E hr h => ?_)
  · first | (obtain ⟨_, rfl, _⟩ := h; rfl) | (obtain ⟨_, _, rfl, _⟩ := h; rfl) | (obtain ⟨_, _, _, rfl, _⟩ := h; rfl) | (obtain ⟨_, _, _, _, rfl, _⟩ := h; rfl) | (obtain ⟨_, _, _, _, _, rfl, _⟩ := h; rfl) | (obtain ⟨_, _, _, _, _, _, rfl, _⟩ := h; rfl) | (obtain ⟨_, _, _, _, _, _, _, rfl, _⟩ := h; rfl) | (obtain ⟨_, _, _, _, _, _, _, _, rfl, _⟩ := h; rfl) | (obtain ⟨_, _, _, _, _, _, _, _, _, rfl, _⟩ := h; rfl) | (obtain ⟨_, _, _, _, _, _, _, _, _, _, rfl, _⟩ := h; rfl) | (obtain ⟨_, _, _, _, _, _, _, _, _, _, _, rfl, _⟩ := h; rfl)
  obtain ⟨wa, b, n, ar, s0, rfl, W, hb, g, q⟩ := h
  obtain ⟨t, as, h1, h2, h3⟩ := W.ex
  have gw := W.gw
  have n7 := gw.n7
  have n1 := gw.n1
  have len := good_len g
  have nd := sc__law_light.nd
  refine ⟨_, (pss_one (ps_ret (pe_lc (own := [("_law_k", 2)]) (g := (gName 2)) (by rfl) nd (pi_range1 (by rfl) T.b_range (pa_cons (pe_ix ix_tupK (pv 0) pe_int (fun _ _ => rfl)) pa_nil)) (blkK (own := [("_law_k", 2)]) (N := N__law_light) (sc := defScope s__law_light) (by decide +kernel)) (fun _ _ _ _ _ => (pg_name (i := 2) nd rfl (Or.inr rfl))) (fun _ _ _ _ _ => pts_one (PW.pt (pw_and (pt_cmpR op_notInK (pv 2) (pv 1) (by rfl)) (pw_and1 (pt_cmpR (op_neDK hr.units) (pe_lc (own := [("_law_one", 3)]) (g := (gName 3)) (by rfl) nd (pi_tupK (pv 1)) (blkK (own := [("_law_one", 3)]) (N := N__law_light) (sc := sin__law_light) (by decide +kernel)) (fun _ _ _ _ _ => (pg_name (i := 3) nd rfl (Or.inl rfl))) (fun _ _ _ _ _ => pts_one (pt_cmpR (op_inDTK (units65 hr)) (pe_tup (pa_cons (pv 3) (pa_cons (pv 2) pa_nil))) (pe_ix ix_tupK (pv 0) pe_int (fun _ _ => rfl)) (by rfl))) (fun _ _ _ _ _ => (pv 3))) (pe_lst pa_nil) (nomark _)))))) (fun _ _ _ _ _ => (pv 2))))), ?_⟩
  refine ⟨.ref wa, rfl, wa, _, 0, .int n, rfl, rfl, tq h1, atI_nat (j := 0) rfl, n, rfl, by omega, by omega, fun C nC => ?_⟩
  refine lc_range (fun i H' => ∃ L : List Int, Same H H' ∧ H' C = some (.lst (L.map V.int)) ∧ (∀ k ∈ L, 0 ≤ k ∧ k < n) ∧ L.length ≤ i)
    ⟨[], (Same.refl H).new nC, upd_same, by simp, Nat.zero_le _⟩ (fun i H1 hi hP => ?_) (fun H1 hP => ?_)
  · obtain ⟨L, S1, hC, rng, ll⟩ := hP
    refine ⟨wipe1, .int (0 + i), rfl, .ref b, rfl, b, _, rfl, .inr (hb.to S1).sq, rfl, flat_ints _, _, rfl, ite2 (fun c => ?_) (fun c => ?_)⟩
    · refine ⟨.ref b, rfl, b, rfl, ⟨_, (hb.to S1).sq⟩, fun C2 nC2 => ?_⟩
      refine lc_tup (K := K) (a := b) (xs := s0.map V.int) (fun j H' => ∃ M : List Int, Same H1 H' ∧ H' C2 = some (.lst (M.map V.int)) ∧ M.length ≤ j)
        ⟨[], (Same.refl H1).new nC2, upd_same, Nat.zero_le _⟩ (fun j H' _ ⟨_, S2, _⟩ => ((hb.to S1).to S2).sq) (fun j x H2 hx hP => ?_) (fun H2 hP => ?_)
      · obtain ⟨M, S2, hC2, lm⟩ := hP
        obtain ⟨o, rfl, ho, om⟩ := get_ints hx
        have hj : j < s0.length := (List.getElem?_eq_some_iff.mp ho).1
        refine ⟨wipe1, .int o, rfl, .int (0 + i), rfl, by show 2 ≤ sizeLine; decide, fun p np => ?_⟩
        have S3 := (S1.trans S2).new (o := .tup [.int o, .int (0 + i)]) np
        refine ⟨.ref wa, rfl, wa, _, 1, .ref t, rfl, rfl, tq (S3 _ _ h1), atI_nat (j := 1) rfl, inD [o, 0 + i], ar.map (fun e => inD [e.1, e.2]), dp_tup (s := [o, 0 + i]) (tq upd_same), .tup (tq (S3 _ _ h2)) (dp_prs (h3.to S3)), inD_shaped _, tup_shaped (fun e => inD_lay _) (fun e => Nat.le_succ_of_le (inD_dep _)) ar, _, rfl, ite2 (fun c => ?_) (fun c => ?_)⟩
        · refine ⟨.int o, rfl, _, up hC2 np, by rw [List.length_map]; exact small1000 (by omega), M ++ [o], (S2.new np).put nC2, by rw [upd_same]; simp, by rw [List.length_append, List.length_singleton]; omega⟩
        · exact ⟨M, S2.new np, up hC2 np, by omega⟩
      · obtain ⟨M, S2, hC2, lm⟩ := hP
        refine ⟨Nat.zero_le _, fun E1 nE1 => ⟨_, .list [], dp_lst (lq (up hC2 nE1)), .lst (lq upd_same) .nil, int_shaped _, nil_shaped, _, rfl, ite2 (fun c => ?_) (fun c => ?_)⟩⟩
        · have S3 := S2.new (o := .lst []) nE1
          refine ⟨_, rfl, _, S3 _ _ hC, by rw [List.length_map]; exact small1000 (by omega), L ++ [(i : Int)], (S1.trans S3).put nC, by rw [upd_same, Int.zero_add]; simp, fun k hk => ?_, by rw [List.length_append, List.length_singleton]; omega⟩
          rcases List.mem_append.mp hk with h | h
          · exact rng k h
          · have := List.mem_singleton.mp h
            omega
        · have S3 := S2.new (o := .lst []) nE1
          exact ⟨L, S1.trans S3, S3 _ _ hC, rng, by omega⟩
    · exact iteF ⟨L, S1, hC, rng, by omega⟩
  · obtain ⟨L, S1, hC, rng, ll⟩ := hP
    exact q H1 C L S1 hC rng (by omega)
def sp__law_quench : Sp := sp__law_light
abbrev sin__law_quench : Scope := { kind := .function, names := [(".0", .local), ("_law_k", .cell), ("_law_burning_here", .cell), ("_law_web_here", .cell)], isGenerator := false, isCoroutine := false }
abbrev N__law_quench : List PySem.Str := ["_law_web_here", "_law_burning_here", "_law_k", "_law_one"]
theorem sc__law_quench : FnScope N__law_quench ["_law_web_here", "_law_burning_here"] (defScope s__law_quench) := ⟨rfl, rfl, rfl, by decide +kernel, rfl, by decide +kernel, by decide +kernel⟩
-- deps: ; slots: 0:_law_web_here(cell) 1:_law_burning_here(cell) 2:_law_k 3:_law_one
theorem ok__law_quench (F : Src K mg "_law_quench" s__law_quench) (T : Txt mg)  : Def P w K mg base 1 "_law_quench" ["_law_web_here", "_law_burning_here"] sp__law_quench := by
  refine mkDef F sc__law_quench (fun _ _ _ _ _ _ us hl => match us, hl with | [_, _], _ => rfl) (fun vs H Q E h => ?_) (fun f cdv A outer s H vs Q E hr h => ?_)
  · first | (obtain ⟨_, rfl, _⟩ := h; rfl) | (obtain ⟨_, _, rfl, _⟩ := h; rfl) | (obtain ⟨_, _, _, rfl, _⟩ := h; rfl) | (obtain ⟨_, _, _, _, rfl, _⟩ := h; rfl) | (obtain ⟨_, _, _, _, _, rfl, _⟩ := h; rfl) | (obtain ⟨_, _, _, _, _, _, rfl, _⟩ := h; rfl) | (obtain ⟨_, _, _, _, _, _, _, rfl, _⟩ := h; rfl) | (obtain ⟨_, _, _, _, _, _, _, _, rfl, _⟩ := h; rfl) | (obtain ⟨_, _, _, _, _, _, _, _, _, rfl, _⟩ := h; rfl) | (obtain ⟨_, _, _, _, _, _, _, _, _, _, rfl, _⟩ := h; rfl) | (obtain ⟨_, _, _, _, _, _, _, _, _, _, _, rfl, _⟩ := h; rfl)
  obtain ⟨wa, b, n, ar, s0, rfl, W, hb, g, q⟩ := h
  obtain ⟨t, as, h1, h2, h3⟩ := W.ex
  have gw := W.gw
  have n7 := gw.n7
  have n1 := gw.n1
  have len := good_len g
  have nd := sc__law_quench.nd
  refine ⟨_, (pss_one (ps_ret (pe_lc (own := [("_law_k", 2)]) (g := (gName 2)) (by rfl) nd (pi_tupK (pv 1)) (blkK (own := [("_law_k", 2)]) (N := N__law_quench) (sc := defScope s__law_quench) (by decide +kernel)) (fun _ _ _ _ _ => (pg_name (i := 2) nd rfl (Or.inr rfl))) (fun _ _ _ _ _ => pts_one (pt_cmpR (op_neDK hr.units) (pe_lc (own := [("_law_one", 3)]) (g := (gName 3)) (by rfl) nd (pi_tupK (pv 1)) (blkK (own := [("_law_one", 3)]) (N := N__law_quench) (sc := sin__law_quench) (by decide +kernel)) (fun _ _ _ _ _ => (pg_name (i := 3) nd rfl (Or.inl rfl))) (fun _ _ _ _ _ => pts_one (pt_cmpR (op_inDTK (units65 hr)) (pe_tup (pa_cons (pv 2) (pa_cons (pv 3) pa_nil))) (pe_ix ix_tupK (pv 0) pe_int (fun _ _ => rfl)) (by rfl))) (fun _ _ _ _ _ => (pv 3))) (pe_lst pa_nil) (nomark _))) (fun _ _ _ _ _ => (pv 2))))), ?_⟩
  refine ⟨.ref b, rfl, b, rfl, ⟨_, hb.sq⟩, fun C nC => ?_⟩
  refine lc_tup (K := K) (a := b) (xs := s0.map V.int) (fun i H' => ∃ L : List Int, Same H H' ∧ H' C = some (.lst (L.map V.int)) ∧ (∀ k ∈ L, 0 ≤ k ∧ k < n) ∧ L.length ≤ i)
    ⟨[], (Same.refl H).new nC, upd_same, by simp, Nat.zero_le _⟩ (fun j H' _ ⟨_, S2, _⟩ => (hb.to S2).sq) (fun i x H1 hx hP => ?_) (fun H1 hP => ?_)
  · obtain ⟨L, S1, hC, rng, ll⟩ := hP
    obtain ⟨k, rfl, hk, km⟩ := get_ints hx
    have hi : i < s0.length := (List.getElem?_eq_some_iff.mp hk).1
    refine ⟨wipe1, .ref b, rfl, b, rfl, ⟨_, (hb.to S1).sq⟩, fun C2 nC2 => ?_⟩
    refine lc_tup (K := K) (a := b) (xs := s0.map V.int) (fun j H' => ∃ M : List Int, Same H1 H' ∧ H' C2 = some (.lst (M.map V.int)) ∧ M.length ≤ j)
      ⟨[], (Same.refl H1).new nC2, upd_same, Nat.zero_le _⟩ (fun j H' _ ⟨_, S2, _⟩ => ((hb.to S1).to S2).sq) (fun j x H2 hx hP => ?_) (fun H2 hP => ?_)
    · obtain ⟨M, S2, hC2, lm⟩ := hP
      obtain ⟨o, rfl, ho, om⟩ := get_ints hx
      have hj : j < s0.length := (List.getElem?_eq_some_iff.mp ho).1
      refine ⟨wipe1, .int k, rfl, .int o, rfl, by show 2 ≤ sizeLine; decide, fun p np => ?_⟩
      have S3 := (S1.trans S2).new (o := .tup [.int k, .int o]) np
      refine ⟨.ref wa, rfl, wa, _, 1, .ref t, rfl, rfl, tq (S3 _ _ h1), atI_nat (j := 1) rfl, inD [k, o], ar.map (fun e => inD [e.1, e.2]), dp_tup (s := [k, o]) (tq upd_same), .tup (tq (S3 _ _ h2)) (dp_prs (h3.to S3)), inD_shaped _, tup_shaped (fun e => inD_lay _) (fun e => Nat.le_succ_of_le (inD_dep _)) ar, _, rfl, ite2 (fun c => ?_) (fun c => ?_)⟩
      · refine ⟨.int o, rfl, _, up hC2 np, by rw [List.length_map]; exact small1000 (by omega), M ++ [o], (S2.new np).put nC2, by rw [upd_same]; simp, by rw [List.length_append, List.length_singleton]; omega⟩
      · exact ⟨M, S2.new np, up hC2 np, by omega⟩
    · obtain ⟨M, S2, hC2, lm⟩ := hP
      refine ⟨Nat.zero_le _, fun E1 nE1 => ⟨_, .list [], dp_lst (lq (up hC2 nE1)), .lst (lq upd_same) .nil, int_shaped _, nil_shaped, _, rfl, ite2 (fun c => ?_) (fun c => ?_)⟩⟩
      · have S3 := S2.new (o := .lst []) nE1
        refine ⟨.int k, rfl, _, S3 _ _ hC, by rw [List.length_map]; exact small1000 (by omega), L ++ [k], (S1.trans S3).put nC, by rw [upd_same]; simp, fun j hj => ?_, by rw [List.length_append, List.length_singleton]; omega⟩
        rcases List.mem_append.mp hj with h | h
        · exact rng j h
        · have := g.2 k km
          have := List.mem_singleton.mp h
          omega
      · have S3 := S2.new (o := .lst []) nE1
        exact ⟨L, S1.trans S3, S3 _ _ hC, rng, by omega⟩
  · obtain ⟨L, S1, hC, rng, ll⟩ := hP
    rw [List.length_map] at ll
    exact q H1 C L S1 hC rng (by omega)
end
end PLW

/-! PLWp -/
set_option Elab.async false
set_option linter.all false
set_option maxRecDepth 100000
set_option maxHeartbeats 4000000
namespace PLW
open PySem PySem.Spec PyProof.Rows L2 PLM PLR
section
variable {P : Program} {w : World} {K : PySem.W.Frag} {mg : Str → Option Value} {base : Heap}
/-! ### the law's own: after, word -/
def Aft (H : Hp) (n : Int) (s : S) (y : V) : Prop := ∃ (a : Addr) (k : Int) (c : Addr), y = .ref a ∧ H a = some (.tup [.int k, .ref c]) ∧ (0 ≤ k ∧ k < n) ∧ Tp H c (tog s k)
theorem Aft.to {H H' : Hp} {n : Int} {s : S} {y : V} (h : Aft H n s y) (S : Same H H') : Aft H' n s y := by
  obtain ⟨a, k, c, e, h1, h2, h3⟩ := h
  exact ⟨a, k, c, e, S _ _ h1, h2, h3.to S⟩
theorem Aft.put {H : Hp} {n : Int} {s : S} {y : V} {p : Addr} {o u : HO} (h : Aft H n s y) (hp : H p = some u) (ne : ∀ zs, u ≠ .tup zs := by intro zs z; cases z) : Aft (upd H p o) n s y := by
  obtain ⟨a, k, c, e, h1, h2, h3⟩ := h
  exact ⟨a, k, c, e, by rw [upd_ne (ne_of h1 hp fun e => ne _ e.symm)]; exact h1, h2, h3.put hp ne⟩
theorem aft_dp {K : PySem.W.Frag} {H : Hp} {n : Int} {s : S} : ∀ {ys : List V}, (∀ y ∈ ys, Aft H n s y) → ∃ zs : List (Int × List Int), DpAll K H ys (zs.map wdD) ∧ zs.length = ys.length
  | [], _ => ⟨[], .nil, rfl⟩
  | y :: ys, h => by
    obtain ⟨zs, d, l⟩ := aft_dp (K := K) fun z hz => h z (List.mem_cons_of_mem _ hz)
    obtain ⟨a, k, c, rfl, h1, _, h3⟩ := h y List.mem_cons_self
    exact ⟨(k, tog s k) :: zs, .cons (.tup (tq h1) (.cons (.int k) (.cons (dp_tup h3.sq) .nil))) d, by simp [l]⟩
def sp__law_after : Sp := fun vs H Q _ => ∃ (wa b : Addr) (n : Int) (ar : Ar) (s : S), vs = [.ref wa, .ref b] ∧ WebAt H wa n ar ∧ Tp H b s ∧ Good n s ∧
  ∀ H' p ys, Same H H' → H p = none → H' p = some (.lst ys) → ys.length ≤ 14 → (∀ y ∈ ys, Aft H' n s y) → Q (.ref p) H'
abbrev N__law_after : List PySem.Str := ["_law_web_here", "_law_burning_here", "_law_k"]
theorem sc__law_after : FnScope N__law_after ["_law_web_here", "_law_burning_here"] (defScope s__law_after) := ⟨rfl, rfl, rfl, by decide +kernel, rfl, by decide +kernel, by decide +kernel⟩
-- deps: _law_light _law_quench _law_changed; slots: 0:_law_web_here 1:_law_burning_here(cell) 2:_law_k
theorem ok__law_after (F : Src K mg "_law_after" s__law_after) (T : Txt mg) (D__law_light : Def P w K mg base 1 "_law_light" ["_law_web_here", "_law_burning_here"] sp__law_light) (D__law_quench : Def P w K mg base 1 "_law_quench" ["_law_web_here", "_law_burning_here"] sp__law_quench) (D__law_changed : Def P w K mg base 1 "_law_changed" ["_law_burning_here", "_law_lamp"] sp__law_changed) : Def P w K mg base 2 "_law_after" ["_law_web_here", "_law_burning_here"] sp__law_after := by
  refine mkDef F sc__law_after (fun _ _ _ _ _ _ us hl => match us, hl with | [_, _], _ => rfl) (fun vs H Q E h => ?_) (fun f cdv A outer s H vs Q E hr h => ?_)
  · first | (obtain ⟨_, rfl, _⟩ := h; rfl) | (obtain ⟨_, _, rfl, _⟩ := h; rfl) | (obtain ⟨_, _, _, rfl, _⟩ := h; rfl) | (obtain ⟨_, _, _, _, rfl, _⟩ := h; rfl) | (obtain ⟨_, _, _, _, _, rfl, _⟩ := h; rfl) | (obtain ⟨_, _, _, _, _, _, rfl, _⟩ := h; rfl) | (obtain ⟨_, _, _, _, _, _, _, rfl, _⟩ := h; rfl) | (obtain ⟨_, _, _, _, _, _, _, _, rfl, _⟩ := h; rfl) | (obtain ⟨_, _, _, _, _, _, _, _, _, rfl, _⟩ := h; rfl) | (obtain ⟨_, _, _, _, _, _, _, _, _, _, rfl, _⟩ := h; rfl) | (obtain ⟨_, _, _, _, _, _, _, _, _, _, _, rfl, _⟩ := h; rfl)
  obtain ⟨wa, b, n, ar, s0, rfl, W, hb, g, q⟩ := h
  have gw := W.gw
  have nd := sc__law_after.nd
  refine ⟨_, (pss_one (ps_ret (pe_lc (own := [("_law_k", 2)]) (g := (gName 2)) (by rfl) nd (pi_listK (pe_callB sortedK (by rfl) T.b_sorted (by decide +kernel) (pa_cons (pe_op op_cat (pc D__law_light (hr.mono (by decide)) (pa_cons (pv 0) (pa_cons (pv 1) pa_nil))) (pc D__law_quench (hr.mono (by decide)) (pa_cons (pv 0) (pa_cons (pv 1) pa_nil)))) pa_nil))) (blkK (own := [("_law_k", 2)]) (N := N__law_after) (sc := defScope s__law_after) (by decide +kernel)) (fun _ _ _ _ _ => (pg_name (i := 2) nd rfl (Or.inl rfl))) (fun _ _ _ _ _ => pts_nil) (fun _ _ _ _ _ => (pe_tup (pa_cons (pv 2) (pa_cons (pc D__law_changed (hr.mono (by decide)) (pa_cons (pv 1) (pa_cons (pv 2) pa_nil))) pa_nil))))))), ?_⟩
  refine ⟨_, rfl, _, rfl, wa, b, n, ar, s0, rfl, W, hb, g, fun H1 p1 L1 S1 e1 r1 l1 => ?_⟩
  refine ⟨_, rfl, _, rfl, wa, b, n, ar, s0, rfl, W.to S1, hb.to S1, g, fun H2 p2 L2 S2 e2 r2 l2 => ?_⟩
  have S12 := S1.trans S2
  refine ⟨p1, p2, _, _, rfl, rfl, S2 _ _ e1, e2, by rw [List.length_map, List.length_map]; exact Nat.le_of_lt (small1000 (by omega)), fun c nc => ?_⟩
  refine ⟨c, L1 ++ L2, rfl, lq (by rw [upd_same, List.map_append]), by rw [List.length_append]; omega, fun L p hp hs np => ⟨p, rfl, ⟨_, lq upd_same⟩, fun C nC => ?_⟩⟩
  have S3 := (S12.new (o := .lst (L1.map V.int ++ L2.map V.int)) nc).new (o := .lst (L.map V.int)) np
  have lL : L.length ≤ 14 := by rw [hp.length_eq, List.length_append]; omega
  have rL : ∀ k ∈ L, 0 ≤ k ∧ k < n := fun k hk => (List.mem_append.mp (hp.mem_iff.mp hk)).elim (r1 k) (r2 k)
  have nC0 := Same.free0 S3 nC
  have eL := up (u := .lst []) (show upd (upd H2 c (.lst (L1.map V.int ++ L2.map V.int))) p (.lst (L.map V.int)) p = some _ from upd_same) nC
  have nCp : C ≠ p := fun e => by rw [e, upd_same] at nC; cases nC
  refine lc_list (K := K) (a := p) (xs := L.map V.int) (fun i H' => ∃ ys : List V, Same H H' ∧ H' p = some (.lst (L.map V.int)) ∧ H' C = some (.lst ys) ∧ ys.length ≤ i ∧ ∀ y ∈ ys, Aft H' n s0 y)
    ⟨[], S3.new nC, eL, upd_same, Nat.zero_le _, by simp⟩ (fun i H' _ ⟨_, _, e, _⟩ => lq e) (fun i v H4 hv hP => ?_) (fun H4 hP => ?_)
  · obtain ⟨ys, S4, ep, hC, ly, af⟩ := hP
    obtain ⟨k, rfl, hk, km⟩ := get_ints hv
    have hi : i < L.length := (List.getElem?_eq_some_iff.mp hk).1
    refine ⟨wipe1, .int k, rfl, _, rfl, _, rfl, b, n, k, s0, rfl, hb.to S4, g, gw.n7, fun H5 c5 S5 t5 => ⟨by show 2 ≤ sizeLine; decide, fun P nP => ?_⟩⟩
    have S6 := S5.new (o := .tup [.int k, .ref c5]) nP
    have hC6 := S6 _ _ hC
    refine ⟨ys, hC6, small1000 (by omega), ys ++ [.ref P], (S4.trans S6).put nC0, ?_, by rw [upd_same], by rw [List.length_append, List.length_singleton]; omega, fun y hy => ?_⟩
    · rw [upd_ne nCp.symm]
      exact S6 _ _ ep
    · rcases List.mem_append.mp hy with h | h
      · exact ((af y h).to S6).put hC6
      · rw [List.mem_singleton.mp h]
        have a : Aft (upd H5 P (.tup [.int k, .ref c5])) n s0 (.ref P) := ⟨P, k, c5, rfl, upd_same, rL k km, t5.to ((Same.refl H5).new nP)⟩
        exact a.put hC6
  · obtain ⟨ys, S4, ep, hC, ly, af⟩ := hP
    rw [List.length_map] at ly
    exact q H4 C ys S4 nC0 hC (by omega) af
def sp__law_word (K : PySem.W.Frag) : Sp := fun vs H Q _ => ∃ (r sc wa b : Addr) (xs : List Int) (n most : Int) (ar : Ar) (s : S), vs = [.ref r, .ref wa, .ref b, .int most] ∧ Row K H r sc xs ∧ xs.length ≤ 63 ∧ WebAt H wa n ar ∧ Tp H b s ∧ Good n s ∧ 0 ≤ most ∧ most ≤ 20 ∧
  ∀ H' p wd, SX r H H' → Row K H' r sc xs → Tp H' p wd → (∀ k ∈ wd, 0 ≤ k ∧ k < n) → Q (.ref p) H'
abbrev N__law_word : List PySem.Str := ["_law_row", "_law_web_here", "_law_burning_here", "_law_most", "_law_word_here", "_law_here", "_law_turn", "_law_some", "_law_lamp"]
theorem sc__law_word : FnScope N__law_word ["_law_row", "_law_web_here", "_law_burning_here", "_law_most"] (defScope s__law_word) := ⟨rfl, rfl, rfl, by decide +kernel, rfl, by decide +kernel, by decide +kernel⟩
-- deps: _law_taken _law_after _law_pick; slots: 0:_law_row 1:_law_web_here 2:_law_burning_here 3:_law_most 4:_law_word_here 5:_law_here 6:_law_turn 7:_law_some 8:_law_lamp
theorem ok__law_word (F : Src K mg "_law_word" s__law_word) (T : Txt mg) (D__law_taken : Def P w K mg base 1 "_law_taken" ["_law_row", "_law_many"] (sp__law_taken K)) (D__law_after : Def P w K mg base 2 "_law_after" ["_law_web_here", "_law_burning_here"] sp__law_after) (D__law_pick : Def P w K mg base 2 "_law_pick" ["_law_row", "_law_things"] (sp__law_pick K)) : Def P w K mg base 3 "_law_word" ["_law_row", "_law_web_here", "_law_burning_here", "_law_most"] (sp__law_word K) := by
  refine mkDef F sc__law_word (fun _ _ _ _ _ _ us hl => match us, hl with | [_, _, _, _], _ => rfl) (fun vs H Q E h => ?_) (fun f cdv A outer s H vs Q E hr h => ?_)
  · first | (obtain ⟨_, rfl, _⟩ := h; rfl) | (obtain ⟨_, _, rfl, _⟩ := h; rfl) | (obtain ⟨_, _, _, rfl, _⟩ := h; rfl) | (obtain ⟨_, _, _, _, rfl, _⟩ := h; rfl) | (obtain ⟨_, _, _, _, _, rfl, _⟩ := h; rfl) | (obtain ⟨_, _, _, _, _, _, rfl, _⟩ := h; rfl) | (obtain ⟨_, _, _, _, _, _, _, rfl, _⟩ := h; rfl) | (obtain ⟨_, _, _, _, _, _, _, _, rfl, _⟩ := h; rfl) | (obtain ⟨_, _, _, _, _, _, _, _, _, rfl, _⟩ := h; rfl) | (obtain ⟨_, _, _, _, _, _, _, _, _, _, rfl, _⟩ := h; rfl) | (obtain ⟨_, _, _, _, _, _, _, _, _, _, _, rfl, _⟩ := h; rfl)
  obtain ⟨r, sc, wa, b, xs, n, most, ar, s0, rfl, R, l63, W, hb, g, m0, m1, q⟩ := h
  have gw := W.gw
  have nd := sc__law_word.nd
  refine ⟨_, (pss_cons (ps_par (i := 4) (j := 5) (by rfl) nd rfl rfl (by decide) rfl rfl (pa_cons (pe_tup pa_nil) (pa_cons (pv 2) pa_nil)) (by rfl))
      (pss_cons (ps_for PassesOwn.never rfl (pi_range1 (by rfl) T.b_range (pa_cons (pc D__law_taken (hr.mono (by decide)) (pa_cons (pv 0) (pa_cons (pe_op op_add (pv 3) pe_int) pa_nil))) pa_nil)) (pg_name (i := 6) nd rfl (.inl rfl)) (pss_cons (ps_set (i := 7) nd rfl (.inl rfl) (pc D__law_after (hr.mono (by decide)) (pa_cons (pv 1) (pa_cons (pv 5) pa_nil))))
      (pss_one (ps_if (pt_cmpR (op_neDK hr.units) (pv 7) (pe_lst pa_nil) (nomark _)) (pss_cons (ps_asg (pc D__law_pick (hr.mono (by decide)) (pa_cons (pv 0) (pa_cons (pv 7) pa_nil))) (pg_tup rfl (pgs_cons (pg_name (i := 8) nd rfl (.inl rfl)) (pgs_cons (pg_name (i := 5) nd rfl (.inl rfl)) pgs_nil))))
      (pss_one (ps_set (i := 4) nd rfl (.inl rfl) (pe_op op_catAK (pv 4) (pe_tup (pa_cons (pv 8) pa_nil)))))) pss_nil))))
      (pss_one (ps_ret (pv 4))))), ?_⟩
  refine ⟨Nat.zero_le _, fun wp nwp => ⟨.ref b, rfl, _, _, rfl, ?_⟩⟩
  have S0 := (Same.refl H).new (o := .tup []) nwp
  refine ⟨_, rfl, .int most, rfl, most, 1, rfl, rfl, r, sc, xs, _, rfl, R.to S0, l63, by omega, by omega, fun H1 k S1 R1 k0 k1 => ⟨k, rfl, by omega, by omega, ?_⟩⟩
  refine for_range (fun i σ H' => ∃ (wp hp : Addr) (wd : List Int) (u : S) (y6 y7 y8 : Option V), σ = [some (.ref r), some (.ref wa), some (.ref b), some (.int most), some (.ref wp), some (.ref hp), y6, y7, y8] ∧ SX r H H' ∧ Row K H' r sc xs ∧ Tp H' wp wd ∧ Tp H' hp u ∧ Good n u ∧ (∀ k ∈ wd, 0 ≤ k ∧ k < n) ∧ wd.length ≤ i)
    ⟨wp, b, [], s0, none, none, none, rfl, (SX.of S0).trans S1, R1, Tp.sx upd_same S1 (R.to S0), (hb.to S0).sx S1 (R.to S0), g, by simp, Nat.zero_le _⟩ (fun i σ H2 hi hP => ?_) (fun σ H2 hP => ?_)
  · obtain ⟨wp, hp, wd, u, y6, y7, y8, rfl, S2, R2, tw, th, gu, rng, len⟩ := hP
    refine ⟨_, rfl, _, rfl, wa, hp, n, ar, u, rfl, W.sx S2 R, th, gu, fun H3 p ys S3 np e3 l3 af => ?_⟩
    refine ⟨.ref p, rfl, Nat.zero_le _, fun E1 nE1 => ?_⟩
    have sE := (Same.refl H3).new (o := .lst []) nE1
    obtain ⟨zs, dp, lz⟩ := aft_dp (K := K) fun y hy => (af y hy).to sE
    refine ⟨_, .list [], .lst (lq (sE _ _ e3)) dp, .lst (lq upd_same) .nil, lst_shaped wdD_lay wdD_dep zs, nil_shaped, _, rfl, ?_⟩
    rw [eqv_nil]
    have S4 := S3.trans sE
    have R4 := R2.to S4
    by_cases hz : zs = []
    · rw [decide_eq_true hz]
      exact iteF ⟨wp, hp, wd, u, _, _, _, rfl, S2.trans (SX.of S4), R4, tw.to S4, th.to S4, gu, rng, by omega⟩
    · rw [decide_eq_false hz]
      have ney : ys ≠ [] := fun e => hz (List.eq_nil_of_length_eq_zero (by rw [lz, e]; rfl))
      have npr : p ≠ r := fun e => R2.some (e ▸ np)
      refine iteT ⟨_, rfl, _, rfl, r, sc, p, xs, ys, rfl, R4, l63, npr, sE _ _ e3, ney, by omega, fun H5 y S5 R5 hy => ?_⟩
      obtain ⟨a, k, c, rfl, h1, h2, h3⟩ := (af y hy).to sE
      have h1 := S5.keep R4 h1
      have h3 := h3.sx S5 R4
      have S25 := (S2.trans (SX.of S4)).trans S5
      refine ⟨a, _, rfl, tq h1, rfl, .int k, [.ref c], rfl, .ref c, [], rfl, rfl, ?_⟩
      have tw5 := (tw.to S4).sx S5 R4
      have gt : Good n (tog u k) := good_tog gu h2.1 h2.2
      have rng' : ∀ j ∈ wd ++ [k], 0 ≤ j ∧ j < n := fun j hj => by
        rcases List.mem_append.mp hj with h | h
        · exact rng j h
        · rw [List.mem_singleton.mp h]
          exact h2
      refine ⟨.ref wp, rfl, .int k, rfl, by show 1 ≤ sizeLine; decide, fun P nP => ?_⟩
      have S6 := (Same.refl H5).new (o := .tup [.int k]) nP
      have fin : ∀ H6 p6, Same H5 H6 → Tp H6 p6 (wd ++ [k]) → ∃ (wp hp : Addr) (wd : List Int) (u : S) (y6 y7 y8 : Option V), [some (V.ref r), some (.ref wa), some (.ref b), some (.int most), some (.ref p6), some (.ref c), some (.int (0 + (i : Int))), some (.ref p), some (.int k)] = [some (.ref r), some (.ref wa), some (.ref b), some (.int most), some (.ref wp), some (.ref hp), y6, y7, y8] ∧ SX r H H6 ∧ Row K H6 r sc xs ∧ Tp H6 wp wd ∧ Tp H6 hp u ∧ Good n u ∧ (∀ k ∈ wd, 0 ≤ k ∧ k < n) ∧ wd.length ≤ i + 1 :=
        fun H6 p6 S6 t6 => ⟨p6, c, wd ++ [k], tog u k, _, _, _, rfl, S25.trans (SX.of S6), R5.to S6, t6, h3.to S6, gt, rng', by rw [List.length_append, List.length_singleton]; omega⟩
      refine ⟨wp, P, _, _, rfl, rfl, (tw5.to S6).sq, tq upd_same, by rw [List.length_map]; exact Nat.le_of_lt (small1000 (by show wd.length + 1 ≤ 1000; omega)), fun e => ?_, fun _ e => (by cases e), fun hne _ P2 nP2 => ?_⟩
      · have e0 : wd = [] := by simpa using e
        subst e0
        exact fin _ P S6 upd_same
      · refine fin _ P2 (S6.new nP2) ?_
        show upd _ _ _ _ = _
        rw [upd_same, ← map_snoc]
  · obtain ⟨wp, hp, wd, u, y6, y7, y8, rfl, S2, R2, tw, th, gu, rng, len⟩ := hP
    exact ⟨.ref wp, rfl, q _ wp wd S2 R2 tw rng⟩
end
end PLW

/-! PLWq -/
set_option Elab.async false
set_option linter.all false
set_option maxRecDepth 100000
set_option maxHeartbeats 4000000
namespace PLW
open PySem PySem.Spec PyProof.Rows L2 PLM PLR
section
variable {P : Program} {w : World} {K : PySem.W.Frag} {mg : Str → Option Value} {base : Heap}
/-! ### the law's own: web -/
theorem przSx {K : PySem.W.Frag} {r sc : Addr} {xs : List Int} {H H' : Hp} {zs : List (Addr × Int × Int)} (h : Prz H zs) (S : SX r H H') (R : Row K H r sc xs) : Prz H' zs := fun z hz => S.keep R (h z hz)
theorem przPut {H : Hp} {zs : List (Addr × Int × Int)} {p : Addr} {o u : HO} (h : Prz H zs) (hp : H p = some u) (ne : ∀ zs, u ≠ .tup zs := by intro zs z; cases z) : Prz (upd H p o) zs := fun z hz => by
  rw [upd_ne (ne_of (h z hz) hp fun e => ne _ e.symm)]
  exact h z hz
def allPairs : List (Int × Int) := (lamps 7).flatMap fun a => (lamps 7).map fun b => (a, b)
theorem pairs49 {n : Int} (n7 : n ≤ 7) {l : Ar} (nd : l.Nodup) (h : ∀ e ∈ l, (0 ≤ e.1 ∧ e.1 < n) ∧ 0 ≤ e.2 ∧ e.2 < n) : l.length ≤ 49 := by
  have := nodup_le (m := allPairs) nd fun e he => by
    have := h e he
    exact List.mem_flatMap.mpr ⟨e.1, mem_lamps.mpr (by omega), List.mem_map.mpr ⟨e.2, mem_lamps.mpr (by omega), rfl⟩⟩
  have e : allPairs.length = 49 := by decide
  omega
/-- tuple(sorted(set(arrows))) is a web's second part -/
theorem web_fin {H : Hp} {ao : Addr} {n : Int} {zs : List (Addr × Int × Int)} {Q : VK} (n1 : 1 ≤ n) (n7 : n ≤ 7) (ha : H ao = some (.lst (zs.map fun z => V.ref z.1))) (hz : Prz H zs)
    (rng : ∀ z ∈ zs, (0 ≤ z.2.1 ∧ z.2.1 < n) ∧ (0 ≤ z.2.2 ∧ z.2.2 < n) ∧ z.2.1 ≠ z.2.2) (len : zs.length < 64) (q : ∀ H' p ar, Same H H' → WebAt H' p n ar → Q (.ref p) H') :
    rSetOfT K P w [.ref ao] H fun v H2 => rSortedT K P w [v] H2 fun v2 H3 => rTupK K [v2] H3 fun v3 H4 => 2 ≤ sizeLine ∧ ∀ p, H4 p = none → Q (.ref p) (upd H4 p (.tup [.int n, v3])) := by
  refine ⟨ao, zs.map fun z => (z.1, [z.2.1, z.2.2]), rfl, lq (by rw [List.map_map]; exact ha), fun p hp => ?_, by rw [List.length_map]; exact len, fun st L nst hL hL2 => ?_⟩
  · obtain ⟨z, hzm, rfl⟩ := List.mem_map.mp hp
    exact tq (hz z hzm)
  have S1 := (Same.refl H).new (o := SetTO P w st L) nst
  have form : ∀ p ∈ L, ∃ z ∈ zs, p = (z.1, [z.2.1, z.2.2]) := fun p hp => by
    obtain ⟨z, hzm, e⟩ := List.mem_map.mp (hL p hp)
    exact ⟨z, hzm, e.symm⟩
  refine ⟨st, L, 2, 64, rfl, upd_same, fun p hp => ?_, by decide, fun p hp => ?_, fun L' p hp nd l64 pw np => ?_⟩
  · obtain ⟨z, hzm, rfl⟩ := form p hp
    exact tq (S1 _ _ (hz z hzm))
  · obtain ⟨z, hzm, rfl⟩ := form p hp
    have := rng z hzm
    refine ⟨rfl, fun x hx => ?_⟩
    rcases List.mem_cons.mp hx with e | e
    · subst e; omega
    · have := List.mem_singleton.mp e
      subst this; omega
  have form' : ∀ p ∈ L', ∃ z ∈ zs, p = (z.1, [z.2.1, z.2.2]) := fun p h => form p (hp.mem_iff.mp h)
  obtain ⟨zs', e', mem'⟩ : ∃ zs' : List (Addr × Int × Int), L' = zs'.map (fun z => (z.1, [z.2.1, z.2.2])) ∧ ∀ z ∈ zs', z ∈ zs := by
    clear hp nd l64 pw np
    induction L' with
    | nil => exact ⟨[], rfl, by simp⟩
    | cons p L' ih =>
      obtain ⟨zs', e, m⟩ := ih fun p h => form' p (List.mem_cons_of_mem _ h)
      obtain ⟨z, hzm, rfl⟩ := form' p List.mem_cons_self
      exact ⟨z :: zs', by rw [e]; rfl, fun y hy => (List.mem_cons.mp hy).elim (fun e => e ▸ hzm) (m y)⟩
  subst e'
  have hz' : Prz H zs' := fun z h => hz z (mem' z h)
  have nd' : (zs'.map (·.2)).Nodup := by
    rw [List.map_map] at nd
    rw [List.Nodup, List.pairwise_map] at nd ⊢
    exact nd.imp fun {a b} h e => h (by show [a.2.1, a.2.2] = [b.2.1, b.2.2]; rw [e])
  have rng' : ∀ z ∈ zs', (0 ≤ z.2.1 ∧ z.2.1 < n) ∧ 0 ≤ z.2.2 ∧ z.2.2 < n := fun z h => ⟨(rng z (mem' z h)).1, (rng z (mem' z h)).2.1⟩
  have pw' := List.pairwise_map.mp pw
  have asc : (zs'.map (·.2)).Pairwise ltA := przSorted (K := K) n7 hz' rng' nd' pw'
  have S2 := S1.new (o := .lst ((zs'.map fun z => (z.1, [z.2.1, z.2.2])).map fun q => V.ref q.1)) np
  refine ⟨p, _, rfl, .inl ⟨lq upd_same, fun t nt => ⟨by show 2 ≤ sizeLine; decide, fun wp nwp => ?_⟩⟩⟩
  have S3 := (S2.new (o := .tup ((zs'.map fun z => (z.1, [z.2.1, z.2.2])).map fun q => V.ref q.1)) nt).new (o := .tup [.int n, .ref t]) nwp
  refine q _ wp (zs'.map (·.2)) S3 ⟨⟨t, zs'.map (·.1), upd_same, up (by rw [upd_same, List.map_map, List.map_map]; rfl) nwp, (hz'.to S3).prs⟩, ⟨n1, n7, fun e he => ?_, asc, ?_⟩⟩
  · obtain ⟨z, hzm, rfl⟩ := List.mem_map.mp he
    exact rng z (mem' z hzm)
  · refine pairs49 n7 nd' fun e he => ?_
    obtain ⟨z, hzm, rfl⟩ := List.mem_map.mp he
    exact rng' z hzm
def sp__law_web (K : PySem.W.Frag) : Sp := fun vs H Q _ => ∃ (r sc : Addr) (xs : List Int), vs = [.ref r, .int 7] ∧ Row K H r sc xs ∧ xs.length ≤ 63 ∧ ∀ H' p n ar, SX r H H' → Row K H' r sc xs → WebAt H' p n ar → Q (.ref p) H'
abbrev N__law_web : List PySem.Str := ["_law_row", "_law_most", "_law_many", "_law_way", "_law_thin", "_law_arrows", "_law_k", "_law_j"]
theorem sc__law_web : FnScope N__law_web ["_law_row", "_law_most"] (defScope s__law_web) := ⟨rfl, rfl, rfl, by decide +kernel, rfl, by decide +kernel, by decide +kernel⟩
-- deps: _law_taken _law_pick; slots: 0:_law_row 1:_law_most 2:_law_many 3:_law_way 4:_law_thin 5:_law_arrows 6:_law_k 7:_law_j
theorem ok__law_web (F : Src K mg "_law_web" s__law_web) (T : Txt mg) (D__law_taken : Def P w K mg base 1 "_law_taken" ["_law_row", "_law_many"] (sp__law_taken K)) (D__law_pick : Def P w K mg base 2 "_law_pick" ["_law_row", "_law_things"] (sp__law_pick K)) : Def P w K mg base 3 "_law_web" ["_law_row", "_law_most"] (sp__law_web K) := by
  refine mkDef F sc__law_web (fun _ _ _ _ _ _ us hl => match us, hl with | [_, _], _ => rfl) (fun vs H Q E h => ?_) (fun f cdv A outer s H vs Q E hr h => ?_)
  · first | (obtain ⟨_, rfl, _⟩ := h; rfl) | (obtain ⟨_, _, rfl, _⟩ := h; rfl) | (obtain ⟨_, _, _, rfl, _⟩ := h; rfl) | (obtain ⟨_, _, _, _, rfl, _⟩ := h; rfl) | (obtain ⟨_, _, _, _, _, rfl, _⟩ := h; rfl) | (obtain ⟨_, _, _, _, _, _, rfl, _⟩ := h; rfl) | (obtain ⟨_, _, _, _, _, _, _, rfl, _⟩ := h; rfl) | (obtain ⟨_, _, _, _, _, _, _, _, rfl, _⟩ := h; rfl) | (obtain ⟨_, _, _, _, _, _, _, _, _, rfl, _⟩ := h; rfl) | (obtain ⟨_, _, _, _, _, _, _, _, _, _, rfl, _⟩ := h; rfl) | (obtain ⟨_, _, _, _, _, _, _, _, _, _, _, rfl, _⟩ := h; rfl)
  obtain ⟨r, sc, xs, rfl, R, l63, q⟩ := h
  have nd := sc__law_web.nd
  refine ⟨_, (pss_cons (ps_par (i := 2) (j := 3) (by rfl) nd rfl rfl (by decide) rfl rfl (pa_cons (pe_op op_add pe_int (pc D__law_taken (hr.mono (by decide)) (pa_cons (pv 0) (pa_cons (pv 1) pa_nil)))) (pa_cons (pc D__law_taken (hr.mono (by decide)) (pa_cons (pv 0) (pa_cons pe_int pa_nil))) pa_nil)) (by rfl))
      (pss_cons (ps_par (i := 4) (j := 5) (by rfl) nd rfl rfl (by decide) rfl rfl (pa_cons (pc D__law_pick (hr.mono (by decide)) (pa_cons (pv 0) (pa_cons (pe_lst (pa_cons pe_int (pa_cons pe_int (pa_cons pe_int pa_nil)))) pa_nil))) (pa_cons (pe_lst pa_nil) pa_nil)) (by rfl))
      (pss_cons (ps_for PassesOwn.never rfl (pi_range1 (by rfl) T.b_range (pa_cons (pv 2) pa_nil)) (pg_name (i := 6) nd rfl (.inl rfl)) (pss_one (ps_for PassesOwn.never rfl (pi_range1 (by rfl) T.b_range (pa_cons (pv 2) pa_nil)) (pg_name (i := 7) nd rfl (.inl rfl)) (pss_one (ps_if (PW.pt (pw_and (pt_cmpR op_ne (pv 6) (pv 7) (nomark _)) (pw_and1 (PW.pt (pw_or (PW.pt (pw_and (pt_cmpR op_lt (pv 3) pe_int (nomark _)) (pw_and1 (pt_cmpR op_eq (pc D__law_taken (hr.mono (by decide)) (pa_cons (pv 0) (pa_cons (pv 4) pa_nil))) pe_int (nomark _))))) (pw_or1 (PW.pt (pw_and (pt_cmpR op_eq (pv 3) pe_int (nomark _)) (pw_and (pt_cmpR op_lt (pv 6) (pv 7) (nomark _)) (pw_and1 (pt_cmpR op_eq (pc D__law_taken (hr.mono (by decide)) (pa_cons (pv 0) (pa_cons pe_int pa_nil))) pe_int (nomark _)))))))))))) (pss_one (ps_expr (pe_bm PySem.F.plainAttrs_list PySem.F.slot_list_append PySem.F.type_list_append mt_append (pv 5) (pa_cons (pe_tup (pa_cons (pv 6) (pa_cons (pv 7) pa_nil))) pa_nil)))) pss_nil)))))
      (pss_cons (ps_if (pt_cmpR op_gt (pv 3) pe_int (nomark _)) (pss_one (ps_set (i := 5) nd rfl (.inl rfl) (pe_op op_cat (pe_lc (own := [("_law_k", 6)]) (g := (gName 6)) (by rfl) nd (pi_range1 (by rfl) T.b_range (pa_cons (pe_op op_sub (pv 2) pe_int) pa_nil)) (blkK (own := [("_law_k", 6)]) (N := N__law_web) (sc := defScope s__law_web) (by decide +kernel)) (fun _ _ _ _ _ => (pg_name (i := 6) nd rfl (Or.inl rfl))) (fun _ _ _ _ _ => pts_nil) (fun _ _ _ _ _ => (pe_tup (pa_cons (pv 6) (pa_cons (pe_op op_add (pv 6) pe_int) pa_nil))))) (pe_ifExp (PW.pt (pw_and (pt_cmpR op_eq (pv 3) pe_int (nomark _)) (pw_and1 (pt_cmpR op_gt (pv 2) pe_int (nomark _))))) (pe_lst (pa_cons (pe_tup (pa_cons (pe_op op_sub (pv 2) pe_int) (pa_cons pe_int pa_nil))) pa_nil)) (pe_lst pa_nil))))) pss_nil)
      (pss_one (ps_ret (pe_tup (pa_cons (pv 2) (pa_cons (pe_callTy tupleK (by rfl) T.b_tuple (by decide +kernel) (pa_cons (pe_callB (sortedTK rfl) (by rfl) T.b_sorted (by decide +kernel) (pa_cons (pe_callTy (setTK rfl hr.units) (by rfl) T.b_set (by decide +kernel) (pa_cons (pv 5) pa_nil)) pa_nil)) pa_nil)) pa_nil))))))))), ?_⟩
  refine ⟨_, rfl, .int 7, rfl, r, sc, xs, 7, rfl, R, l63, by decide, by decide, fun H1 k S1 R1 k0 k1 => ⟨1, k, rfl, rfl, ?_⟩⟩
  refine ⟨_, rfl, r, sc, xs, 6, rfl, R1, l63, by decide, by decide, fun H2 way S2 R2 w0 w1 => ⟨_, _, rfl, ?_⟩⟩
  have n1 : 1 ≤ 1 + k := by omega
  have n7 : 1 + k ≤ 7 := by omega
  dsimp only
  generalize 1 + k = n at *
  have S02 := S1.trans S2
  refine ⟨_, rfl, by show 3 ≤ sizeLine; decide, fun l nl => ?_⟩
  have nlr : l ≠ r := fun e => R2.some (e ▸ nl)
  have Sl := (Same.refl H2).new (o := .lst [.int 2, .int 3, .int 5]) nl
  refine ⟨r, sc, l, xs, _, rfl, R2.to Sl, l63, nlr, upd_same, by simp, by decide, fun H3 y S3 R3 hy => ⟨Nat.zero_le _, fun ao nao => ⟨_, _, rfl, ?_⟩⟩⟩
  obtain ⟨th, rfl, th0, th1⟩ : ∃ th : Int, y = .int th ∧ 0 < th ∧ th < 1000000 := by
    simp only [List.mem_cons, List.not_mem_nil, or_false] at hy
    rcases hy with rfl | rfl | rfl
    · exact ⟨2, rfl, by decide, by decide⟩
    · exact ⟨3, rfl, by decide, by decide⟩
    · exact ⟨5, rfl, by decide, by decide⟩
  have S03 := (S02.trans (SX.of Sl)).trans S3
  have nao0 : H ao = none := SX.free S03 nao R3.some
  have nar : ao ≠ r := fun e => R3.some (e ▸ nao)
  have Sa := (Same.refl H3).new (o := .lst []) nao
  refine ⟨.int n, rfl, n, rfl, by omega, by omega, ?_⟩
  refine for_range (fun i σ H' => ∃ (zs : List (Addr × Int × Int)) (y6 y7 : Option V), σ = [some (.ref r), some (.int 7), some (.int n), some (.int way), some (.int th), some (.ref ao), y6, y7] ∧ SX r H H' ∧ Row K H' r sc xs ∧ H' ao = some (.lst (zs.map fun z => V.ref z.1)) ∧ Prz H' zs ∧
    (∀ z ∈ zs, (0 ≤ z.2.1 ∧ z.2.1 < n) ∧ (0 ≤ z.2.2 ∧ z.2.2 < n) ∧ z.2.1 ≠ z.2.2) ∧ zs.length ≤ 7 * i)
    ⟨[], none, none, rfl, S03.trans (SX.of Sa), R3.to Sa, upd_same, fun z hz => (by cases hz), by simp, Nat.zero_le _⟩ (fun i σ H4 hi hP => ?_) (fun σ H4 hP => ?_)
  · obtain ⟨zs, y6, y7, rfl, S4, R4, hA, hz, rng, len⟩ := hP
    refine ⟨.int n, rfl, n, rfl, by omega, by omega, ?_⟩
    refine for_range (fun i2 σ H' => ∃ (zs : List (Addr × Int × Int)) (y7 : Option V), σ = [some (.ref r), some (.int 7), some (.int n), some (.int way), some (.int th), some (.ref ao), some (.int (0 + (i : Int))), y7] ∧ SX r H H' ∧ Row K H' r sc xs ∧ H' ao = some (.lst (zs.map fun z => V.ref z.1)) ∧ Prz H' zs ∧
      (∀ z ∈ zs, (0 ≤ z.2.1 ∧ z.2.1 < n) ∧ (0 ≤ z.2.2 ∧ z.2.2 < n) ∧ z.2.1 ≠ z.2.2) ∧ zs.length ≤ 7 * i + i2)
      ⟨zs, y7, rfl, S4, R4, hA, hz, rng, len⟩ (fun j σ H5 hj hP => ?_) (fun σ H5 hP => ?_)
    · obtain ⟨zs, y7, rfl, S5, R5, hA, hz, rng, len⟩ := hP
      have stay : ∀ H6, SX r H5 H6 → Row K H6 r sc xs → ∃ (zs : List (Addr × Int × Int)) (y7 : Option V), [some (V.ref r), some (.int 7), some (.int n), some (.int way), some (.int th), some (.ref ao), some (.int (0 + (i : Int))), some (.int (0 + (j : Int)))] = [some (.ref r), some (.int 7), some (.int n), some (.int way), some (.int th), some (.ref ao), some (.int (0 + (i : Int))), y7] ∧ SX r H H6 ∧ Row K H6 r sc xs ∧ H6 ao = some (.lst (zs.map fun z => V.ref z.1)) ∧ Prz H6 zs ∧
          (∀ z ∈ zs, (0 ≤ z.2.1 ∧ z.2.1 < n) ∧ (0 ≤ z.2.2 ∧ z.2.2 < n) ∧ z.2.1 ≠ z.2.2) ∧ zs.length ≤ 7 * i + (j + 1) :=
        fun H6 S6 R6 => ⟨zs, _, rfl, S5.trans S6, R6, S6 _ _ nar hA, przSx hz S6 R5, rng, by omega⟩
      have push : (i : Int) ≠ (j : Int) → ∀ H6, SX r H5 H6 → Row K H6 r sc xs → ∀ p, H6 p = none → ∃ (zs2 : List (Addr × Int × Int)) (y7 : Option V), [some (V.ref r), some (.int 7), some (.int n), some (.int way), some (.int th), some (.ref ao), some (.int (0 + (i : Int))), some (.int (0 + (j : Int)))] = [some (.ref r), some (.int 7), some (.int n), some (.int way), some (.int th), some (.ref ao), some (.int (0 + (i : Int))), y7] ∧
          SX r H (upd (upd H6 p (.tup [.int (0 + (i : Int)), .int (0 + (j : Int))])) ao (.lst ((zs.map fun z => V.ref z.1) ++ [.ref p]))) ∧ Row K (upd (upd H6 p (.tup [.int (0 + (i : Int)), .int (0 + (j : Int))])) ao (.lst ((zs.map fun z => V.ref z.1) ++ [.ref p]))) r sc xs ∧
          (upd (upd H6 p (.tup [.int (0 + (i : Int)), .int (0 + (j : Int))])) ao (.lst ((zs.map fun z => V.ref z.1) ++ [.ref p]))) ao = some (.lst (zs2.map fun z => V.ref z.1)) ∧ Prz (upd (upd H6 p (.tup [.int (0 + (i : Int)), .int (0 + (j : Int))])) ao (.lst ((zs.map fun z => V.ref z.1) ++ [.ref p]))) zs2 ∧
          (∀ z ∈ zs2, (0 ≤ z.2.1 ∧ z.2.1 < n) ∧ (0 ≤ z.2.2 ∧ z.2.2 < n) ∧ z.2.1 ≠ z.2.2) ∧ zs2.length ≤ 7 * i + (j + 1) := fun nij H6 S6 R6 p np => by
        have Sp := (Same.refl H6).new (o := .tup [.int (0 + (i : Int)), .int (0 + (j : Int))]) np
        have hA6 := Sp _ _ (S6 _ _ nar hA)
        refine ⟨zs ++ [(p, 0 + (i : Int), 0 + (j : Int))], _, rfl, ((S5.trans S6).trans (SX.of Sp)).put nao0, (R6.to Sp).put R3 nao, by rw [upd_same]; simp, ?_, fun z hzm => ?_, by rw [List.length_append, List.length_singleton]; omega⟩
        · refine przPut (Prz.snoc ((przSx hz S6 R5).to Sp) upd_same) hA6
        · rcases List.mem_append.mp hzm with h | h
          · exact rng z h
          · rw [List.mem_singleton.mp h]
            simp only
            omega
      have apd : ∀ H6, SX r H5 H6 → H6 ao = some (.lst (zs.map fun z => V.ref z.1)) := fun H6 S6 => S6 _ _ nar hA
      have l49 : zs.length ≤ 1000 := by omega
      refine ⟨.int (0 + (i : Int)), rfl, .int (0 + (j : Int)), rfl, rfl, _, rfl, ite2 (fun c => ?_) (fun c => ?_)⟩
      · have nij : (i : Int) ≠ (j : Int) := fun e => by rw [e] at c; simp at c
        refine ⟨.int way, rfl, way, 3, rfl, rfl, _, rfl, ite2 (fun c2 => ?_) (fun c2 => ?_)⟩
        · refine ⟨_, rfl, _, rfl, r, sc, xs, th, rfl, R5, l63, th0, th1, fun H6 v S6 R6 v0 v1 => ⟨rfl, _, rfl, ite2 (fun c3 => ?_) (fun c3 => ?_)⟩⟩
          · have a6 := apd H6 S6
            refine iteT ⟨.ref ao, rfl, .inl ⟨rfl, _, lq a6⟩, .int (0 + (i : Int)), rfl, .int (0 + (j : Int)), rfl, by show 2 ≤ sizeLine; decide, fun p np => ⟨ao, _, _, rfl, rfl, up a6 np, by rw [List.length_map]; exact small1000 l49, push nij H6 S6 R6 p np⟩⟩
          · have : decide (V.int way = V.int 3) = false := by
              have : way < 3 := by simpa using c2
              simp
              omega
            refine ⟨.int way, rfl, rfl, _, rfl, ?_⟩
            rw [this]
            exact iteF (iteF (stay H6 S6 R6))
        · refine ⟨.int way, rfl, rfl, _, rfl, ite2 (fun c3 => ?_) (fun c3 => iteF (stay H5 (SX.refl r H5) R5))⟩
          refine ⟨.int (0 + (i : Int)), rfl, .int (0 + (j : Int)), rfl, _, _, rfl, rfl, _, rfl, ite2 (fun c4 => ?_) (fun c4 => iteF (stay H5 (SX.refl r H5) R5))⟩
          refine ⟨_, rfl, r, sc, xs, 2, rfl, R5, l63, by decide, by decide, fun H6 v S6 R6 v0 v1 => ⟨rfl, _, rfl, ite2 (fun c5 => ?_) (fun c5 => ?_)⟩⟩
          · have a6 := apd H6 S6
            exact ⟨.ref ao, rfl, .inl ⟨rfl, _, lq a6⟩, .int (0 + (i : Int)), rfl, .int (0 + (j : Int)), rfl, by show 2 ≤ sizeLine; decide, fun p np => ⟨ao, _, _, rfl, rfl, up a6 np, by rw [List.length_map]; exact small1000 l49, push nij H6 S6 R6 p np⟩⟩
          · exact stay H6 S6 R6
      · exact iteF (stay H5 (SX.refl r H5) R5)
    · obtain ⟨zs, y7, rfl, S5, R5, hA, hz, rng, len⟩ := hP
      exact ⟨zs, _, _, rfl, S5, R5, hA, hz, rng, by omega⟩
  · obtain ⟨zs, y6, y7, rfl, S4, R4, hA, hz, rng, len⟩ := hP
    have fin : ∀ H5 ao (zs : List (Addr × Int × Int)), SX r H H5 → Row K H5 r sc xs → H5 ao = some (.lst (zs.map fun z => V.ref z.1)) → Prz H5 zs → (∀ z ∈ zs, (0 ≤ z.2.1 ∧ z.2.1 < n) ∧ (0 ≤ z.2.2 ∧ z.2.2 < n) ∧ z.2.1 ≠ z.2.2) → zs.length < 64 →
        rSetOfT K P w [.ref ao] H5 fun v H2 => rSortedT K P w [v] H2 fun v2 H3 => rTupK K [v2] H3 fun v3 H4 => 2 ≤ sizeLine ∧ ∀ p, H4 p = none → Q (.ref p) (upd H4 p (.tup [.int n, v3])) := fun H5 ao zs S5 R5 hA hz rng len =>
      web_fin n1 n7 hA hz rng len fun H6 p ar S6 W6 => q H6 p n ar (S5.trans (SX.of S6)) (R5.to S6) W6
    refine ⟨.int way, rfl, way, 3, rfl, rfl, _, rfl, ite2 (fun c => ?_) (fun c => ?_)⟩
    · refine ⟨.int n, rfl, n, 1, rfl, rfl, n - 1, rfl, by omega, by omega, fun C nC => ?_⟩
      have SC := (Same.refl H4).new (o := .lst []) nC
      refine lc_range (fun i H' => ∃ zs : List (Addr × Int × Int), Same H4 H' ∧ H' C = some (.lst (zs.map fun z => V.ref z.1)) ∧ Prz H' zs ∧ (∀ z ∈ zs, (0 ≤ z.2.1 ∧ z.2.1 < n) ∧ (0 ≤ z.2.2 ∧ z.2.2 < n) ∧ z.2.1 ≠ z.2.2) ∧ zs.length ≤ i)
        ⟨[], SC, upd_same, fun z hz => (by cases hz), by simp, Nat.zero_le _⟩ (fun i H5 hi hP => ?_) (fun H5 hP => ?_)
      · obtain ⟨zs, S5, hC, hz, rng, len⟩ := hP
        refine ⟨wipe1, .int (0 + (i : Int)), rfl, .int (0 + (i : Int)), rfl, _, 1, rfl, rfl, by show 2 ≤ sizeLine; decide, fun p np => ?_⟩
        have Sp := (Same.refl H5).new (o := .tup [.int (0 + (i : Int)), .int (0 + (i : Int) + 1)]) np
        have hCp := Sp _ _ hC
        refine ⟨_, hCp, by rw [List.length_map]; exact small1000 (by omega), zs ++ [(p, 0 + (i : Int), 0 + (i : Int) + 1)], (S5.trans Sp).put nC, by rw [upd_same]; simp, przPut (Prz.snoc (hz.to Sp) upd_same) hCp, fun z hzm => ?_, by rw [List.length_append, List.length_singleton]; omega⟩
        rcases List.mem_append.mp hzm with h | h
        · exact rng z h
        · rw [List.mem_singleton.mp h]
          simp only
          omega
      · obtain ⟨zs, S5, hC, hz, rng, len⟩ := hP
        have l7 : zs.length ≤ 6 := by omega
        have none : ∀ (E1 : Addr), H5 E1 = none → ∀ d : Addr, upd H5 E1 (.lst []) d = none → rSetOfT K P w [.ref d] (upd (upd H5 E1 (.lst [])) d (.lst ((zs.map fun z => V.ref z.1) ++ []))) fun v H2 => rSortedT K P w [v] H2 fun v2 H3 => rTupK K [v2] H3 fun v3 H4 => 2 ≤ sizeLine ∧ ∀ p, H4 p = none → Q (.ref p) (upd H4 p (.tup [.int n, v3])) := fun E1 nE d nd => by
          have S6 := (S5.new (o := .lst []) nE).new (o := .lst ((zs.map fun z => V.ref z.1) ++ [])) nd
          have S6' := ((Same.refl H5).new (o := .lst []) nE).new (o := .lst ((zs.map fun z => V.ref z.1) ++ [])) nd
          exact fin _ d zs (S4.trans (SX.of S6)) (R4.to S6) (by rw [upd_same, List.append_nil]) (hz.to S6') rng (by omega)
        refine ⟨.int way, rfl, rfl, _, rfl, ite2 (fun c2 => ?_) (fun c2 => iteF ?_)⟩
        · refine ⟨.int n, rfl, n, 1, rfl, rfl, _, rfl, ite2 (fun c3 => ?_) (fun c3 => ?_)⟩
          · have n2 : 1 < n := by simpa using c3
            refine ⟨.int n, rfl, n, 1, rfl, rfl, by show 2 ≤ sizeLine; decide, fun p np => ⟨by show 1 ≤ sizeLine; decide, fun b nb => ?_⟩⟩
            have Sp := (Same.refl H5).new (o := .tup [.int (n - 1), .int 0]) np
            have Sb := Sp.new (o := .lst [.ref p]) nb
            refine ⟨C, b, _, _, rfl, rfl, Sb _ _ hC, upd_same, by rw [List.length_map]; exact Nat.le_of_lt (small1000 (by show zs.length + 1 ≤ 1000; omega)), fun d nd => ?_⟩
            have Sd := Sb.new (o := .lst ((zs.map fun z => V.ref z.1) ++ [.ref p])) nd
            have hp2 : upd (upd (upd H5 p (.tup [.int (n - 1), .int 0])) b (.lst [.ref p])) d (.lst ((zs.map fun z => V.ref z.1) ++ [.ref p])) p = some (.tup [.int (n - 1), .int 0]) := up (up upd_same nb) nd
            refine ⟨.int n, rfl, .ref d, rfl, fin _ d (zs ++ [(p, n - 1, 0)]) (S4.trans (SX.of (S5.trans Sd))) (R4.to (S5.trans Sd)) (by rw [upd_same]; simp) (Prz.snoc (hz.to Sd) hp2) (fun z hzm => ?_) (by rw [List.length_append, List.length_singleton]; omega)⟩
            rcases List.mem_append.mp hzm with h | h
            · exact rng z h
            · rw [List.mem_singleton.mp h]
              simp only
              omega
          · refine ⟨Nat.zero_le _, fun E1 nE => ⟨C, E1, _, _, rfl, rfl, up hC nE, upd_same, by rw [List.length_map]; exact Nat.le_of_lt (small1000 (by show zs.length + 0 ≤ 1000; omega)), fun d nd => ⟨.int n, rfl, .ref d, rfl, none E1 nE d nd⟩⟩⟩
        · refine ⟨Nat.zero_le _, fun E1 nE => ⟨C, E1, _, _, rfl, rfl, up hC nE, upd_same, by rw [List.length_map]; exact Nat.le_of_lt (small1000 (by show zs.length + 0 ≤ 1000; omega)), fun d nd => ⟨.int n, rfl, .ref d, rfl, none E1 nE d nd⟩⟩⟩
    · exact ⟨.int n, rfl, .ref ao, rfl, fin H4 ao zs S4 R4 hA hz rng (by omega)⟩
end
end PLW

/-! PLWr -/
set_option Elab.async false
set_option linter.all false
set_option maxRecDepth 100000
set_option maxHeartbeats 4000000
namespace PLW
open PySem PySem.Spec PyProof.Rows L2 PLM PLR
section
variable {P : Program} {w : World} {K : PySem.W.Frag} {mg : Str → Option Value} {base : Heap}
/-! ### the law -/
theorem valO_some {n : Int} {ar : Ar} {ok : S → Prop} {s t : S} {f : List (S × Int)} {d : Nat} (D : DM (Rl n ar ok) s f) (h : PLM.IsD (Rl n ar ok) s t d) : valO f t = .int (d : Int) := by
  unfold valO
  rw [(fget_some D.nd).mpr ((D.all t d).mpr ⟨d, rfl, h⟩)]
  rfl
theorem valO_none {n : Int} {ar : Ar} {ok : S → Prop} {s t : S} {f : List (S × Int)} (D : DM (Rl n ar ok) s f) (h : ¬ ∃ m, Pth (Rl n ar ok) m s t) : valO f t = .non := by
  unfold valO
  rw [fget_none.mpr fun m => h ?_]
  · rfl
  · obtain ⟨e, he, rfl⟩ := List.mem_map.mp m
    obtain ⟨d, _, i⟩ := (D.all e.1 e.2).mp he
    exact ⟨d, i.1⟩
theorem valO_nil (t : S) : valO [] t = .non := rfl
theorem isD_okn {n : Int} {ar : Ar} {s t : S} {d : Nat} (n0 : 0 ≤ n) (h : PLM.IsD (Rl n ar fun _ => True) s t d) : PLM.IsD (Rl n ar (okm n)) s t d :=
  ⟨pk_all n0 h.1 (Int.le_refl n), fun m hm => h.2 m (hm.imp fun _ _ r => ⟨r.1, r.2.1, trivial, trivial, r.2.2.2.2⟩)⟩
theorem okn {n : Int} {s : S} (n0 : 0 ≤ n) (g : Good n s) : okm n s := by
  have := good_len g
  show ((s.length : Nat) : Int) ≤ n
  omega
theorem pk_uniq {n : Int} {ar : Ar} {s t : S} {p q : Int} (h : Pk n ar s t p) (h' : Pk n ar s t q) : p = q := by
  rcases Int.lt_trichotomy p q with c | c | c
  · exact absurd h.reach (h'.least p c h.ls)
  · exact c
  · exact absurd h'.reach (h.least q c h'.ls)
theorem ifN {X Y : V} {A B : Prop} (h : X = Y) (b : B) : if (!decide (X = Y)) = true then A else B := by
  rw [decide_eq_true h]
  exact b
theorem ifD {p : Prop} [Decidable p] {A B : Prop} (h : ¬ p) (b : B) : if decide p = true then A else B := by
  rw [decide_eq_false h]
  exact b
theorem ifL {s t : List Int} {A B : Prop} (h : s = t) (b : B) : if (!PyData.eqv (inD s) (inD t)) = true then A else B := by
  rw [inD_eqv, decide_eq_true h]
  exact b
theorem and_rest {c : TT} {A rest : TS} {D : Ends} {σ : L2.St} {H0 : Hp} (r : ∀ H', Same H0 H' → rest D σ H') (step : (∀ H', Same H0 H' → rest D σ H') → tSeq (tIfS c A tNext) rest D σ H0) : tNext { D with nx := tSeq (tIfS c A tNext) rest D } σ H0 := step r
theorem mkFn {X : Cx} {b : List Stmt} {Z : TS → Prop} (h : ∃ t, PSs X.nox b t ∧ Z t) : ∃ t, PSs X b t ∧ Z t := by
  obtain ⟨t, ht, q⟩ := h
  exact ⟨t, ht.nox, q⟩
def sp_law (K : PySem.W.Frag) : Sp := fun vs H Q _ => ∃ (sc : Addr) (xs : List Int), vs = [.ref sc] ∧ SqL K H sc (xs.map V.int) ∧ xs.length ≤ 63 ∧ ∀ H', Q (.bl true) H'
abbrev N_law : List PySem.Str := ["_law_script", "_law_row", "_law_web_here", "_law_one", "_law_other", "_law_few", "_law_word_here", "_law_differ", "_law_k", "_law_lit", "_law_times", "_law_peak", "_law_line", "_law_lamp", "_law_here"]
theorem sc_law : FnScope N_law ["_law_script"] (defScope s_law) := ⟨rfl, rfl, rfl, by decide +kernel, rfl, by decide +kernel, by decide +kernel⟩
-- deps: _law_web _law_burning _law_pick _law_run _law_word fewest way_between sort_counts least_peak ways_count run farthest word_sorts words_between burn_times fewest_below peak_word _law_changed deed_counts; slots: 0:_law_script 1:_law_row 2:_law_web_here 3:_law_one(cell) 4:_law_other(cell) 5:_law_few(cell) 6:_law_word_here 7:_law_differ 8:_law_k 9:_law_lit 10:_law_times(cell) 11:_law_peak 12:_law_line 13:_law_lamp 14:_law_here
theorem ok_law {fL : Addr} {fdL : FuncData} (F : FunD K "law" "law" (defArgs s_law) (defBody s_law) (defScope s_law) [] [] fL fdL) (T : Txt mg) (D__law_web : Def P w K mg base 3 "_law_web" ["_law_row", "_law_most"] (sp__law_web K)) (D__law_burning : Def P w K mg base 3 "_law_burning" ["_law_row", "_law_many"] (sp__law_burning K)) (D__law_pick : Def P w K mg base 2 "_law_pick" ["_law_row", "_law_things"] (sp__law_pick K)) (D__law_run : Def P w K mg base 2 "_law_run" ["_law_burning_here", "_law_word_here"] sp__law_run) (D__law_word : Def P w K mg base 3 "_law_word" ["_law_row", "_law_web_here", "_law_burning_here", "_law_most"] (sp__law_word K)) (D_fewest : Def P w K mg base 6 "fewest" ["web", "one", "other"] sp_fewest) (D_way_between : Def P w K mg base 6 "way_between" ["web", "one", "other"] sp_way_between) (D_sort_counts : Def P w K mg base 6 "sort_counts" ["web", "one", "other"] sp_sort_counts) (D_least_peak : Def P w K mg base 6 "least_peak" ["web", "one", "other"] sp_least_peak) (D_ways_count : Def P w K mg base 6 "ways_count" ["web", "one", "other"] sp_ways_count) (D_run : Def P w K mg base 6 "run" ["web", "burning", "word"] sp_run) (D_farthest : Def P w K mg base 5 "farthest" ["web", "burning"] sp_farthest) (D_word_sorts : Def P w K mg base 6 "word_sorts" ["web", "burning", "word"] sp_word_sorts) (D_words_between : Def P w K mg base 5 "words_between" ["web", "one", "other", "many"] sp_words_between) (D_burn_times : Def P w K mg base 6 "burn_times" ["web", "burning", "word"] sp_burn_times) (D_fewest_below : Def P w K mg base 6 "fewest_below" ["web", "one", "other", "most"] sp_fewest_below) (D_peak_word : Def P w K mg base 6 "peak_word" ["web", "one", "other"] sp_peak_word) (D__law_changed : Def P w K mg base 1 "_law_changed" ["_law_burning_here", "_law_lamp"] sp__law_changed) (D_deed_counts : Def P w K mg base 5 "deed_counts" ["web", "burning"] sp_deed_counts) : FnOk P w K mg base CX0 7 fL fdL ["_law_script"] (sp_law K) := by
  refine F.ok sc_law (fun vs H Q E h => ?_) (fun cdv A outer s H vs Q E hr h => mkFn ?_)
  · first | (obtain ⟨_, rfl, _⟩ := h; rfl) | (obtain ⟨_, _, rfl, _⟩ := h; rfl) | (obtain ⟨_, _, _, rfl, _⟩ := h; rfl) | (obtain ⟨_, _, _, _, rfl, _⟩ := h; rfl) | (obtain ⟨_, _, _, _, _, rfl, _⟩ := h; rfl) | (obtain ⟨_, _, _, _, _, _, rfl, _⟩ := h; rfl) | (obtain ⟨_, _, _, _, _, _, _, rfl, _⟩ := h; rfl) | (obtain ⟨_, _, _, _, _, _, _, _, rfl, _⟩ := h; rfl) | (obtain ⟨_, _, _, _, _, _, _, _, _, rfl, _⟩ := h; rfl) | (obtain ⟨_, _, _, _, _, _, _, _, _, _, rfl, _⟩ := h; rfl) | (obtain ⟨_, _, _, _, _, _, _, _, _, _, _, rfl, _⟩ := h; rfl)
  obtain ⟨sc, xs, rfl, hS, l63, q⟩ := h
  have nd := sc_law.nd
  refine ⟨_, (pss_cons (ps_set (i := 1) nd rfl (.inl rfl) (pe_lst (pa_cons (pv 0) (pa_cons pe_int (pa_cons pe_int (pa_cons pe_int pa_nil))))))
      (pss_cons (ps_set (i := 2) nd rfl (.inl rfl) (pc D__law_web (hr.mono (by decide)) (pa_cons (pv 1) (pa_cons pe_int pa_nil))))
      (pss_cons (ps_set (i := 3) nd rfl (.inr rfl) (pc D__law_burning (hr.mono (by decide)) (pa_cons (pv 1) (pa_cons (pe_ix ix_tupK (pv 2) pe_int (fun _ _ => rfl)) pa_nil))))
      (pss_cons (ps_set (i := 4) nd rfl (.inr rfl) (pc D__law_pick (hr.mono (by decide)) (pa_cons (pv 1) (pa_cons (pe_lst (pa_cons (pc D__law_burning (hr.mono (by decide)) (pa_cons (pv 1) (pa_cons (pe_ix ix_tupK (pv 2) pe_int (fun _ _ => rfl)) pa_nil))) (pa_cons (pc D__law_run (hr.mono (by decide)) (pa_cons (pv 3) (pa_cons (pc D__law_word (hr.mono (by decide)) (pa_cons (pv 1) (pa_cons (pv 2) (pa_cons (pv 3) (pa_cons pe_int pa_nil))))) pa_nil))) pa_nil))) pa_nil))))
      (pss_cons (ps_asg (pe_tup (pa_cons (pc D_fewest (hr.mono (by decide)) (pa_cons (pv 2) (pa_cons (pv 3) (pa_cons (pv 4) pa_nil)))) (pa_cons (pc D_way_between (hr.mono (by decide)) (pa_cons (pv 2) (pa_cons (pv 3) (pa_cons (pv 4) pa_nil)))) pa_nil))) (pg_tup rfl (pgs_cons (pg_name (i := 5) nd rfl (.inr rfl)) (pgs_cons (pg_name (i := 6) nd rfl (.inl rfl)) pgs_nil))))
      (pss_cons (ps_set (i := 7) nd rfl (.inl rfl) (pe_callB lenK (by rfl) T.b_len (by decide +kernel) (pa_cons (pe_lc (own := [("_law_k", 8)]) (g := (gName 8)) (by rfl) nd (pi_range1 (by rfl) T.b_range (pa_cons (pe_ix ix_tupK (pv 2) pe_int (fun _ _ => rfl)) pa_nil)) (blkK (own := [("_law_k", 8)]) (N := N_law) (sc := defScope s_law) (by decide +kernel)) (fun _ _ _ _ _ => (pg_name (i := 8) nd rfl (Or.inl rfl))) (fun _ _ _ _ _ => pts_one (pt_cmpR op_ne (pe_cmpR op_inK (pv 8) (pv 3) (by rfl)) (pe_cmpR op_inK (pv 8) (pv 4) (by rfl)) (nomark _))) (fun _ _ _ _ _ => (pv 8))) pa_nil)))
      (pss_cons (ps_if (pt_cmp (pc_isN (pv 5))) (pss_one (ps_ret (pe_and (pe_cmp (pc_isN (pv 6)) rfl) (pe_and (pe_cmpR op_eq (pc D_ways_count (hr.mono (by decide)) (pa_cons (pv 2) (pa_cons (pv 3) (pa_cons (pv 4) pa_nil)))) pe_int (nomark _)) (pe_and (pe_cmp (pc_isN (pc D_least_peak (hr.mono (by decide)) (pa_cons (pv 2) (pa_cons (pv 3) (pa_cons (pv 4) pa_nil))))) rfl) (pe_one (pe_cmp (pc_isN (pc D_sort_counts (hr.mono (by decide)) (pa_cons (pv 2) (pa_cons (pv 3) (pa_cons (pv 4) pa_nil))))) rfl))))))) pss_nil)
      (pss_cons (ps_if (PW.pt (pw_or (pt_cmpR op_lt (pv 5) (pv 7) (nomark _)) (pw_or (pt_cmpR op_ne (pe_op op_mod (pe_callTy call_int1 (by rfl) T.b_int (by decide +kernel) (pa_cons (pe_op op_sub (pv 5) (pv 7)) pa_nil)) pe_int) pe_int (nomark _)) (pw_or (pt_cmpR op_ne (pe_callB lenK (by rfl) T.b_len (by decide +kernel) (pa_cons (pv 6) pa_nil)) (pv 5) (nomark _)) (pw_or1 (pt_cmpR (op_neDK hr.units) (pc D_run (hr.mono (by decide)) (pa_cons (pv 2) (pa_cons (pv 3) (pa_cons (pv 6) pa_nil)))) (pv 4) (nomark _))))))) (pss_one (ps_ret pe_bl)) pss_nil)
      (pss_cons (ps_if (pt_cmpR op_gt (pv 5) (pe_ix ix_tupK (pc D_farthest (hr.mono (by decide)) (pa_cons (pv 2) (pa_cons (pv 3) pa_nil))) pe_int (fun _ _ => rfl)) (nomark _)) (pss_one (ps_ret pe_bl)) pss_nil)
      (pss_cons (ps_set (i := 9) nd rfl (.inl rfl) (pe_cntB (pc D_word_sorts (hr.mono (by decide)) (pa_cons (pv 2) (pa_cons (pv 3) (pa_cons (pv 6) pa_nil)))) pe_bl ⟨rfl, rfl, rfl, rfl⟩))
      (pss_cons (ps_if (PW.pt (pw_or (pt_cmpR (op_neDK hr.units) (pc D_sort_counts (hr.mono (by decide)) (pa_cons (pv 2) (pa_cons (pv 3) (pa_cons (pv 4) pa_nil)))) (pe_tup (pa_cons (pv 9) (pa_cons (pe_op op_sub (pv 5) (pv 9)) pa_nil))) (nomark _)) (pw_or1 (pt_cmpR op_ne (pe_op op_sub (pe_op op_mul pe_int (pv 9)) (pv 5)) (pe_op op_sub (pe_callB lenK (by rfl) T.b_len (by decide +kernel) (pa_cons (pv 4) pa_nil)) (pe_callB lenK (by rfl) T.b_len (by decide +kernel) (pa_cons (pv 3) pa_nil))) (nomark _))))) (pss_one (ps_ret pe_bl)) pss_nil)
      (pss_cons (ps_if (PW.pt (pw_and (pt_cmpR op_lt (pv 5) pe_int (nomark _)) (pw_and1 (pt_cmpR op_ne (pc D_words_between (hr.mono (by decide)) (pa_cons (pv 2) (pa_cons (pv 3) (pa_cons (pv 4) (pa_cons (pv 5) pa_nil))))) (pc D_ways_count (hr.mono (by decide)) (pa_cons (pv 2) (pa_cons (pv 3) (pa_cons (pv 4) pa_nil)))) (nomark _))))) (pss_one (ps_ret pe_bl)) pss_nil)
      (pss_cons (ps_set (i := 10) nd rfl (.inr rfl) (pc D_burn_times (hr.mono (by decide)) (pa_cons (pv 2) (pa_cons (pv 3) (pa_cons (pv 6) pa_nil)))))
      (pss_cons (ps_if (pt_cmpR (op_neDK hr.units) (pe_lc (own := [("_law_k", 8)]) (g := (gName 8)) (by rfl) nd (pi_range1 (by rfl) T.b_range (pa_cons (pe_ix ix_tupK (pv 2) pe_int (fun _ _ => rfl)) pa_nil)) (blkK (own := [("_law_k", 8)]) (N := N_law) (sc := defScope s_law) (by decide +kernel)) (fun _ _ _ _ _ => (pg_name (i := 8) nd rfl (Or.inl rfl))) (fun _ _ _ _ _ => pts_one (PW.pt (pw_or (pt_cmpR op_gt (pe_ix ix_tupK (pv 10) (pv 8) (fun _ _ => rfl)) (pe_op op_add (pv 5) pe_int) (nomark _)) (pw_or1 (PW.pt (pw_and (pt_cmpR op_inK (pv 8) (pv 3) (by rfl)) (pw_and (pt_cmpR op_inK (pv 8) (pv 4) (by rfl)) (pw_and (pt_cmpR op_lt (pe_ix ix_tupK (pv 10) (pv 8) (fun _ _ => rfl)) pe_int (nomark _)) (pw_and1 (pt_cmpR op_gt (pv 5) pe_int (nomark _))))))))))) (fun _ _ _ _ _ => (pv 8))) (pe_lst pa_nil) (nomark _)) (pss_one (ps_ret pe_bl)) pss_nil)
      (pss_cons (ps_set (i := 11) nd rfl (.inl rfl) (pc D_least_peak (hr.mono (by decide)) (pa_cons (pv 2) (pa_cons (pv 3) (pa_cons (pv 4) pa_nil)))))
      (pss_cons (ps_if (PW.pt (pw_or (pt_cmpR op_lt (pv 11) (pe_callB (call_max2 rfl) (by rfl) T.b_max (by decide +kernel) (pa_cons (pe_callB lenK (by rfl) T.b_len (by decide +kernel) (pa_cons (pv 3) pa_nil)) (pa_cons (pe_callB lenK (by rfl) T.b_len (by decide +kernel) (pa_cons (pv 4) pa_nil)) pa_nil))) (nomark _)) (pw_or1 (pt_cmpR op_ne (pc D_fewest_below (hr.mono (by decide)) (pa_cons (pv 2) (pa_cons (pv 3) (pa_cons (pv 4) (pa_cons (pe_ix ix_tupK (pv 2) pe_int (fun _ _ => rfl)) pa_nil))))) (pv 5) (nomark _))))) (pss_one (ps_ret pe_bl)) pss_nil)
      (pss_cons (ps_if (pt_cmpR op_lt (pc D_fewest_below (hr.mono (by decide)) (pa_cons (pv 2) (pa_cons (pv 3) (pa_cons (pv 4) (pa_cons (pv 11) pa_nil))))) (pv 5) (nomark _)) (pss_one (ps_ret pe_bl)) pss_nil)
      (pss_cons (ps_if (PW.pt (pw_and (pt_cmpR op_gt (pv 11) pe_int (nomark _)) (pw_and1 (pt_cmp (pc_notN (pc D_fewest_below (hr.mono (by decide)) (pa_cons (pv 2) (pa_cons (pv 3) (pa_cons (pv 4) (pa_cons (pe_op op_sub (pv 11) pe_int) pa_nil)))))))))) (pss_one (ps_ret pe_bl)) pss_nil)
      (pss_cons (ps_set (i := 12) nd rfl (.inl rfl) (pe_lst (pa_cons (pv 3) pa_nil)))
      (pss_cons (ps_for PassesOwn.never rfl (pi_tupK (pc D_peak_word (hr.mono (by decide)) (pa_cons (pv 2) (pa_cons (pv 3) (pa_cons (pv 4) pa_nil))))) (pg_name (i := 13) nd rfl (.inl rfl)) (pss_one (ps_expr (pe_bm PySem.F.plainAttrs_list PySem.F.slot_list_append PySem.F.type_list_append mt_append (pv 12) (pa_cons (pc D__law_changed (hr.mono (by decide)) (pa_cons (pe_ix ix_listK (pv 12) (pe_un un_neg pe_int) (fun _ _ => rfl)) (pa_cons (pv 13) pa_nil))) pa_nil)))))
      (pss_one (ps_ret (pe_and (pe_cmpR op_eq (pe_callB (maxK rfl) (by rfl) T.b_max (by decide +kernel) (pa_cons (pe_lc (own := [("_law_here", 14)]) (g := (gName 14)) (by rfl) nd (pi_listK (pv 12)) (blkK (own := [("_law_here", 14)]) (N := N_law) (sc := defScope s_law) (by decide +kernel)) (fun _ _ _ _ _ => (pg_name (i := 14) nd rfl (Or.inl rfl))) (fun _ _ _ _ _ => pts_nil) (fun _ _ _ _ _ => (pe_callB lenK (by rfl) T.b_len (by decide +kernel) (pa_cons (pv 14) pa_nil)))) pa_nil)) (pv 11) (nomark _)) (pe_and (pe_cmpR (op_eqDK hr.units) (pe_ix ix_listK (pv 12) (pe_un un_neg pe_int) (fun _ _ => rfl)) (pv 4) (nomark _)) (pe_one (pe_cmpR op_gt (pe_ix ix_tupK (pc D_deed_counts (hr.mono (by decide)) (pa_cons (pv 2) (pa_cons (pv 3) pa_nil))) (pv 5) (fun _ _ => rfl)) pe_int (nomark _))))))))))))))))))))))))))), ?_⟩
  refine ⟨.ref sc, rfl, by show 4 ≤ sizeLine; decide, fun r nr => ?_⟩
  have R0 : Row K (upd H r (.lst [.ref sc, .int 0, .int 9166, .int 0])) r sc xs := Row.mk0 hS nr (by decide)
  refine ⟨_, rfl, r, sc, xs, rfl, R0, l63, fun H1 wa n ar S1 R1 W1 => ?_⟩
  obtain ⟨t1, as1, w1, w2, w3⟩ := W1.ex
  have gw := W1.gw
  have n1 := gw.n1
  have n7 := gw.n7
  refine ⟨_, rfl, .ref wa, rfl, wa, _, 0, .int n, rfl, rfl, tq w1, atI_nat (j := 0) rfl, r, sc, xs, n, rfl, R1, l63, by omega, n7, fun H2 a s0 S2 R2 ta gs => ?_⟩
  have wv2 := S2.keep R1 w1
  have W2 := W1.sx S2 R1
  refine ⟨_, rfl, _, rfl, .ref wa, rfl, wa, _, 0, .int n, rfl, rfl, tq wv2, atI_nat (j := 0) rfl, r, sc, xs, n, rfl, R2, l63, by omega, n7, fun H3 b1 s1 S3 R3 tb1 gs1 => ?_⟩
  have ta3 := ta.sx S3 R2
  have W3 := W2.sx S3 R2
  refine ⟨_, rfl, _, rfl, _, rfl, _, rfl, r, sc, wa, a, xs, n, 12, ar, s0, rfl, R3, l63, W3, ta3, gs, by decide, by decide, fun H4 wp wd0 S4 R4 tw rng => ?_⟩
  have ta4 := ta3.sx S4 R3
  refine ⟨a, wp, n, s0, wd0, rfl, ta4, gs, n7, tw, rng, fun H5 b2 S5 tb2 => ⟨by show 2 ≤ sizeLine; decide, fun l nl => ?_⟩⟩
  have R5 := R4.to S5
  have nlr : l ≠ r := fun e => R5.some (e ▸ nl)
  have Sl := (Same.refl H5).new (o := .lst [.ref b1, .ref b2]) nl
  refine ⟨r, sc, l, xs, _, rfl, R5.to Sl, l63, nlr, upd_same, by simp, (show 2 ≤ 1000 by decide), fun H6 y S6 R6 hy => ?_⟩
  have ta6 : Tp H6 a s0 := ((ta4.to S5).to Sl).sx S6 (R5.to Sl)
  have W6 : WebAt H6 wa n ar := (((W3.sx S4 R3).to S5).to Sl).sx S6 (R5.to Sl)
  obtain ⟨b, t0, rfl, tb6, gt⟩ : ∃ b t0, y = .ref b ∧ Tp H6 b t0 ∧ Good n t0 := by
    simp only [List.mem_cons, List.not_mem_nil, or_false] at hy
    rcases hy with rfl | rfl
    · exact ⟨b1, s1, rfl, (((tb1.sx S4 R3).to S5).to Sl).sx S6 (R5.to Sl), gs1⟩
    · exact ⟨b2, _, rfl, (tb2.to Sl).sx S6 (R5.to Sl), runs_good gs rng⟩
  clear hy S1 R1 W1 w1 w2 w3 S2 R2 ta wv2 W2 S3 R3 tb1 gs1 ta3 W3 S4 R4 tw rng ta4 tb2 S5 R5 Sl S6 R6 nlr nl R0
  have ls := good_len gs
  have lt := good_len gt
  refine ⟨_, rfl, _, rfl, _, rfl, wa, a, b, n, ar, s0, t0, rfl, W6, ta6, gs, tb6, gt, fun H7 f S7 D => ?_⟩
  refine ⟨_, rfl, _, rfl, _, rfl, wa, a, b, n, ar, s0, t0, rfl, W6.to S7, ta6.to S7, gs, tb6.to S7, gt, fun H8 v S8 vn vd => ⟨by show 2 ≤ sizeLine; decide, fun P nP => ?_⟩⟩
  have S9 := (S7.trans S8).new (o := .tup [valO f t0, v]) nP
  have S89 := (Same.refl H8).new (o := .tup [valO f t0, v]) nP
  refine ⟨P, _, rfl, tq upd_same, rfl, valO f t0, [v], rfl, v, [], rfl, rfl, ?_⟩
  have vd9 : ∀ d : Nat, PLM.IsD (Rl n ar fun _ => True) s0 t0 d → ∃ p wd, v = .ref p ∧ Tp (upd H8 P (.tup [valO f t0, v])) p wd ∧ Wd ar (fun _ => True) s0 t0 wd ∧ wd.length = d := fun d hd => by
    obtain ⟨p, wd, e, h1, h2⟩ := vd d hd
    exact ⟨p, wd, e, h1.to S89, h2⟩
  have W9 := W6.to S9
  have ta9 := ta6.to S9
  have tb9 := tb6.to S9
  clear vd S89 S9 S8 S7 W6 ta6 tb6
  generalize upd H8 P (.tup [valO f t0, v]) = H9 at *
  clear nP
  obtain ⟨tw, asw, w1, w2, w3⟩ := W9.ex
  have gl : ∀ i : Nat, i < n.toNat → (lamps n)[i]? = some (i : Int) := fun i hi => by
    unfold lamps
    rw [List.getElem?_map, List.getElem?_range hi] <;> rfl
  refine ⟨.ref wa, rfl, wa, _, 0, .int n, rfl, rfl, tq w1, atI_nat (j := 0) rfl, n, rfl, by omega, by omega, fun C nC => ?_⟩
  refine lc_range (fun i H' => H' = upd H9 C (.lst ((((lamps n).take i).filter fun k => decide (k ∈ s0) != decide (k ∈ t0)).map V.int))) rfl (fun i H10 hi hP => ?_) (fun H10 hP => ?_)
  · subst hP
    have sm := (Same.refl H9).new (o := .lst ((((lamps n).take i).filter fun k => decide (k ∈ s0) != decide (k ∈ t0)).map V.int)) nC
    have fl := filter_snoc (p := fun k => decide (k ∈ s0) != decide (k ∈ t0)) (gl i hi)
    have l1 := List.length_filter_le (fun k => decide (k ∈ s0) != decide (k ∈ t0)) ((lamps n).take i)
    rw [List.length_take] at l1
    refine ⟨wipe1, .int (0 + i), rfl, .ref a, rfl, a, _, rfl, .inr (ta9.to sm).sq, rfl, flat_ints _, .int (0 + i), rfl, .ref b, rfl, b, _, rfl, .inr (tb9.to sm).sq, rfl, flat_ints _, rfl, _, rfl, ?_⟩
    rw [if_neg Bool.false_ne_true, if_neg Bool.false_ne_true, inV_ints, inV_ints, Int.zero_add]
    have e : (!decide (V.bl (decide ((i : Int) ∈ s0)) = V.bl (decide ((i : Int) ∈ t0)))) = (decide ((i : Int) ∈ s0) != decide ((i : Int) ∈ t0)) := by
      cases decide ((i : Int) ∈ s0) <;> cases decide ((i : Int) ∈ t0) <;> rfl
    rw [e]
    cases c : (decide ((i : Int) ∈ s0) != decide ((i : Int) ∈ t0)) with
    | true =>
      refine iteT ⟨_, rfl, _, upd_same, by rw [List.length_map]; exact small1000 (by omega), ?_⟩
      rw [upd_upd, fl, c]
      simp
    | false =>
      refine iteF ?_
      rw [fl, c]
      simp
  subst hP
  have eD : (((lamps n).take n.toNat).filter fun k => decide (k ∈ s0) != decide (k ∈ t0)) = differ n s0 t0 := by
    rw [List.take_of_length_le (by rw [length_lamps]; exact Nat.le_refl _)] <;> rfl
  rw [eD]
  have sm := (Same.refl H9).new (o := .lst ((differ n s0 t0).map V.int)) nC
  refine ⟨C, _, rfl, .inl (lq upd_same), ?_⟩
  rw [List.length_map]
  replace vd9 : ∀ d : Nat, PLM.IsD (Rl n ar fun _ => True) s0 t0 d → ∃ p wd, v = .ref p ∧ Tp (upd H9 C (.lst ((differ n s0 t0).map V.int))) p wd ∧ Wd ar (fun _ => True) s0 t0 wd ∧ wd.length = d := fun d hd => by
    obtain ⟨p, wd, e, h1, h2⟩ := vd9 d hd
    exact ⟨p, wd, e, h1.to sm, h2⟩
  replace W9 := W9.to sm
  replace ta9 := ta9.to sm
  replace tb9 := tb9.to sm
  clear sm w1 w2 w3
  generalize upd H9 C (.lst ((differ n s0 t0).map V.int)) = HH at *
  refine ⟨valO f t0, rfl, _, rfl, ?_⟩
  by_cases rc : Rc n ar s0 t0
  · obtain ⟨m, hm⟩ := id rc
    obtain ⟨d, _, hd⟩ := isD_of hm
    rw [valO_some D hd]
    refine iteF ?_
    obtain ⟨wp, wd, rfl, tw, hw, lw⟩ := vd9 d hd
    clear vd9 vn
    have d127 := isD_few gw.n7 gs (fun _ _ r => r.2.1) hd
    obtain ⟨df1, df2⟩ := pth_differ gw hd.1
    have lc := lits_count gs.1 hw
    rw [lw] at lc
    have l200 : wd.length ≤ 200 := by omega
    -- fewest against differing
    refine ⟨.int (d : Int), rfl, .int _, rfl, _, _, rfl, rfl, _, rfl, ?_⟩
    refine ifD (show ¬ (d : Int) < ((differ n s0 t0).length : Nat) by omega) ⟨.int (d : Int), rfl, .int _, rfl, _, _, rfl, rfl, .inl ⟨_, rfl, _, 2, rfl, rfl, (show (0 : Int) < 2 by decide), rfl, _, rfl, ?_⟩⟩
    refine ifN (congrArg V.int (show ((d : Int) - ((differ n s0 t0).length : Nat)) % 2 = 0 by omega)) ⟨.ref wp, rfl, wp, _, rfl, .inr tw.sq, .int (d : Int), rfl, rfl, _, rfl, ?_⟩
    refine ifN (congrArg V.int (by rw [List.length_map, lw])) ⟨_, rfl, _, rfl, _, rfl, wa, a, wp, n, ar, s0, t0, wd, rfl, W9, ta9, gs, tw, l200, hw, fun H1 p1 S1 t1 => ?_⟩
    refine ⟨.ref b, rfl, _, _, dp_tup t1.sq, dp_tup (tb9.to S1).sq, inD_shaped _, inD_shaped _, _, rfl, ?_⟩
    refine ifL rfl ⟨.int (d : Int), rfl, _, rfl, _, rfl, wa, a, n, ar, s0, rfl, W9.to S1, ta9.to S1, gs, fun H2 p2 q2 m2 S2 e2 hm2 => ⟨p2, _, 0, .int m2, rfl, rfl, tq e2, atI_nat (j := 0) rfl, _, _, rfl, rfl, _, rfl, ?_⟩⟩
    have S12 := S1.trans S2
    refine ifD (show ¬ m2 < (d : Int) by have := hm2 t0 d hd; omega) ⟨_, rfl, _, rfl, _, rfl, wa, a, wp, n, ar, s0, t0, wd, rfl, W9.to S12, ta9.to S12, gs, tw.to S12, l200, hw, fun H3 p3 S3 e3 => ⟨p3, _, rfl, e3, true, rfl, e3, ?_⟩⟩
    have S13 := S12.trans S3
    obtain ⟨L, hL⟩ : ∃ L : Nat, (lits s0 wd).count true = L := ⟨_, rfl⟩
    rw [hL] at lc ⊢
    -- sort_counts
    refine ⟨_, rfl, _, rfl, _, rfl, wa, a, b, n, ar, s0, t0, rfl, W9.to S13, ta9.to S13, gs, tb9.to S13, gt, fun H4 v4 S4 _ h4 => ?_⟩
    obtain ⟨p4, rfl, e4⟩ := h4 d hd
    have fl := fdiv_lit lc
    rw [fl.1, fl.2] at e4
    refine ⟨.int (L : Int), rfl, .int (d : Int), rfl, .int (L : Int), rfl, _, _, rfl, rfl, by show 2 ≤ sizeLine; decide, fun p5 n5 => ?_⟩
    have S5 := (S13.trans S4).new (o := .tup [.int (L : Int), .int ((d : Int) - (L : Int))]) n5
    refine ⟨_, _, dp_tup (s := [(L : Int), (d : Int) - (L : Int)]) (tq (up e4 n5)), dp_tup (s := [(L : Int), (d : Int) - (L : Int)]) (tq upd_same), inD_shaped _, inD_shaped _, _, rfl, ?_⟩
    refine ifL rfl ⟨.int (L : Int), rfl, 2, _, rfl, rfl, .inl (by decide), .int (d : Int), rfl, _, _, rfl, rfl, .ref b, rfl, b, _, rfl, .inr (tb9.to S5).sq, .ref a, rfl, a, _, rfl, .inr (ta9.to S5).sq, _, _, rfl, rfl, rfl, _, rfl, ?_⟩
    refine ifN (congrArg V.int (by rw [List.length_map, List.length_map]; exact lc)) ?_
    clear e4 h4 e3 hm2 e2 t1
    generalize upd H4 p5 _ = HH5 at *
    -- the counts
    refine and_rest (fun H6 S6 => ?rest1) (fun rest => ?step1)
    case step1 =>
      refine ⟨.int (d : Int), rfl, _, 13, rfl, rfl, _, rfl, ite2 (fun c => ?_) (fun c => iteF (rest _ (Same.refl _)))⟩
      have d13 : d < 13 := by
        have : (d : Int) < 13 := by simpa using c
        omega
      refine ⟨_, rfl, _, rfl, _, rfl, _, rfl, wa, a, b, n, d, ar, s0, t0, rfl, W9.to S5, ta9.to S5, gs, tb9.to S5, gt, by omega, fun H6 S6 => ?_⟩
      refine ⟨_, rfl, _, rfl, _, rfl, wa, a, b, n, ar, s0, t0, rfl, W9.to (S5.trans S6), ta9.to (S5.trans S6), gs, tb9.to (S5.trans S6), gt, fun H7 z S7 _ hz => ⟨rfl, _, rfl, ifN (congrArg V.int (hz d hd).symm) (rest _ (S6.trans S7))⟩⟩
    have S6 := S5.trans S6
    -- burn_times
    refine ⟨_, rfl, _, rfl, _, rfl, wa, a, wp, n, ar, s0, t0, wd, rfl, W9.to S6, ta9.to S6, gs, tw.to S6, l200, hw, fun H7 tp S7 tt => ?_⟩
    have S7 := S6.trans S7
    have W7 := W9.to S7
    have ta7 := ta9.to S7
    have tb7 := tb9.to S7
    obtain ⟨tw7, asw7, w1, w2, w3⟩ := W7.ex
    refine ⟨.ref wa, rfl, wa, _, 0, .int n, rfl, rfl, tq w1, atI_nat (j := 0) rfl, n, rfl, by omega, by omega, fun C nC => ?_⟩
    refine lc_range (fun i H' => H' = upd H7 C (.lst [])) rfl (fun i H8 hi hP => ?_) (fun H8 hP => ?_)
    · subst hP
      have sm := (Same.refl H7).new (o := .lst []) nC
      have at_ : atI (((List.range n.toNat).map fun (j : Nat) => ((bt s0 wd (j : Int) : Nat) : Int)).map V.int) (0 + (i : Int)) = some (.int ((bt s0 wd (i : Int) : Nat) : Int)) := by
        rw [Int.zero_add]
        refine atI_nat (j := i) ?_
        rw [List.getElem?_map, List.getElem?_map, List.getElem?_range hi] <;> rfl
      have bt_le : bt s0 wd (i : Int) ≤ d + 1 := by
        have := List.length_filter_le (fun u : S => decide ((i : Int) ∈ u)) (sline s0 wd)
        rw [length_sline, lw] at this
        exact this
      refine ⟨wipe1, .ref tp, rfl, .int (0 + i), rfl, tp, _, _, _, rfl, rfl, (tt.to sm).sq, at_, .int (d : Int), rfl, _, 1, rfl, rfl, _, _, rfl, rfl, _, rfl, ifD (show ¬ (d : Int) + 1 < ((bt s0 wd (i : Int) : Nat) : Int) by omega) ?_⟩
      refine ⟨.int (0 + i), rfl, .ref a, rfl, a, _, rfl, .inr (ta7.to sm).sq, rfl, flat_ints _, _, rfl, ite2 (fun c1 => ?_) (fun c1 => iteF rfl)⟩
      refine ⟨.int (0 + i), rfl, .ref b, rfl, b, _, rfl, .inr (tb7.to sm).sq, rfl, flat_ints _, _, rfl, ite2 (fun c2 => ?_) (fun c2 => iteF rfl)⟩
      refine ⟨.ref tp, rfl, .int (0 + i), rfl, tp, _, _, _, rfl, rfl, (tt.to sm).sq, at_, _, 2, rfl, rfl, _, rfl, ite2 (fun c3 => ?_) (fun c3 => iteF rfl)⟩
      refine ⟨.int (d : Int), rfl, _, 0, rfl, rfl, _, rfl, ite2 (fun c4 => ?_) (fun c4 => rfl)⟩
      refine False.elim ?_
      rw [if_neg Bool.false_ne_true, inV_ints, Int.zero_add] at c1 c2
      have c1 := of_decide_eq_true c1
      have c2 := of_decide_eq_true c2
      have c3 : ((bt s0 wd (i : Int) : Nat) : Int) < 2 := of_decide_eq_true c3
      have c4 : (0 : Int) < (d : Int) := of_decide_eq_true c4
      have two := filter_two (w := wd) (s := s0) (p := fun u => decide ((i : Int) ∈ u)) (decide_eq_true c1) (by rw [hw.ends]; exact decide_eq_true c2) (fun e => by rw [e] at lw; simp at lw; omega)
      have : 2 ≤ bt s0 wd (i : Int) := two
      omega
    subst hP
    refine ⟨Nat.zero_le _, fun E1 nE1 => ?_⟩
    have S8 := (S7.new (o := .lst []) nC).new (o := .lst []) nE1
    refine ⟨.list [], .list [], .lst (lq (up upd_same nE1)) .nil, .lst (lq upd_same) .nil, nil_shaped, nil_shaped, _, rfl, ?_⟩
    rw [show PyData.eqv (.list []) (.list []) = true by simp [PyData.eqv, PyData.eqvAll]]
    refine iteF ?_
    clear w1 w2 w3 tt
    generalize upd (upd H7 C (.lst [])) E1 (.lst []) = HH8 at *
    -- least_peak
    refine ⟨_, rfl, _, rfl, _, rfl, wa, a, b, n, ar, s0, t0, rfl, W9.to S8, ta9.to S8, gs, tb9.to S8, gt, fun H9' v9 S9' _ h9 => ?_⟩
    obtain ⟨p, rfl, PK⟩ := h9 rc
    have S9 := S8.trans S9'
    have W10 := W9.to S9
    have ta10 := ta9.to S9
    have tb10 := tb9.to S9
    have pls : (s0.length : Int) ≤ p := PK.ls
    have plt : (t0.length : Int) ≤ p := PK.lt
    have pn := PK.le
    obtain ⟨tw10, asw10, w1, w2, w3⟩ := W10.ex
    refine ⟨.int p, rfl, .ref a, rfl, a, _, rfl, .inr ta10.sq, .ref b, rfl, b, _, rfl, .inr tb10.sq, _, _, rfl, _, _, rfl, rfl, _, rfl, ifD ?_ ?_⟩
    · rw [List.length_map, List.length_map]
      split <;> omega
    refine ⟨_, rfl, _, rfl, _, rfl, .ref wa, rfl, wa, _, 0, .int n, rfl, rfl, tq w1, atI_nat (j := 0) rfl, wa, a, b, n, n, ar, s0, t0, rfl, W10, ta10, gs, tb10, gt, by omega, by omega, fun H11 f2 S11 D1 _ => ?_⟩
    rw [valO_some (D1 (okn (by omega) gs)) (isD_okn (by omega) hd)]
    refine ⟨.int (d : Int), rfl, rfl, _, rfl, ifN rfl ?_⟩
    have S11 := S9.trans S11
    -- below the peak
    refine ⟨_, rfl, _, rfl, _, rfl, .int p, rfl, wa, a, b, n, p, ar, s0, t0, rfl, W9.to S11, ta9.to S11, gs, tb9.to S11, gt, by omega, by omega, fun H12 f3 S12' D1 _ => ?_⟩
    obtain ⟨m2, hm2⟩ := PK.reach
    obtain ⟨e, _, he⟩ := isD_of hm2
    have de : d ≤ e := hd.2 e (he.1.imp fun _ _ r => ⟨r.1, r.2.1, trivial, trivial, r.2.2.2.2⟩)
    rw [valO_some (D1 PK.ls) he]
    refine ⟨.int (d : Int), rfl, _, _, rfl, rfl, _, rfl, ifD (show ¬ (e : Int) < (d : Int) by omega) ?_⟩
    have S12 := S11.trans S12'
    refine and_rest (fun H13 S13 => ?rest2) (fun rest => ?step2)
    case step2 =>
      refine ⟨.int p, rfl, _, 0, rfl, rfl, _, rfl, ite2 (fun c => ?_) (fun c => iteF (rest _ (Same.refl _)))⟩
      have p0 : 0 < p := of_decide_eq_true c
      refine ⟨_, rfl, _, rfl, _, rfl, .int p, rfl, _, 1, rfl, rfl, wa, a, b, n, p - 1, ar, s0, t0, rfl, W9.to S12, ta9.to S12, gs, tb9.to S12, gt, by omega, by omega, fun H13 f4 S13 D1 D2 => ⟨_, rfl, ?_⟩⟩
      have e0 : valO f4 t0 = .non := by
        by_cases ok : okm (p - 1) s0
        · exact valO_none (D1 ok) (PK.least (p - 1) (by omega) ok)
        · rw [D2 ok]
          rfl
      exact ifN e0 (rest _ S13)
    have S13 := S12.trans S13
    -- the peak's word
    refine ⟨.ref a, rfl, by show 1 ≤ sizeLine; decide, fun lo nlo => ?_⟩
    have S14 := S13.new (o := .lst [.ref a]) nlo
    have nlo0 := Same.free0 S13 nlo
    refine ⟨_, rfl, _, rfl, _, rfl, wa, a, b, n, ar, s0, t0, rfl, W9.to S14, ta9.to S14, gs, tb9.to S14, gt, fun H15 vv S15 _ h15 => ?_⟩
    obtain ⟨qw, wd2, pk, rfl, PK2, tqw, hw2, l2⟩ := h15 rc
    have epk := pk_uniq PK2 PK
    subst epk
    have hlo : H15 lo = some (.lst [.ref a]) := S15 _ _ upd_same
    have S15 := S14.trans S15
    have rng2 := hw2.rng gw gs
    refine ⟨qw, rfl, ⟨_, tqw.sq⟩, ?_⟩
    refine for_tup (K := K) (a := qw) (xs := wd2.map V.int) (fun i σ H' => ∃ (as : List Addr) (y13 : Option V), σ = [some (.ref sc), some (.ref r), some (.ref wa), some (.ref a), some (.ref b), some (.int (d : Int)), some (.ref wp), some (.int ((differ n s0 t0).length : Nat)), none, some (.int (L : Int)), some (.ref tp), some (.int pk), some (.ref lo), y13, none] ∧ Same HH H' ∧ Tp H' qw wd2 ∧ H' lo = some (.lst (as.map V.ref)) ∧ Sts H' as (sline s0 (wd2.take i)))
      ⟨[a], none, rfl, S15, tqw, hlo, Sts.nil.snoc (ta9.to S15)⟩ (fun i σ H' _ ⟨_, _, _, _, t, _⟩ => t.sq) (fun i x σ H16 hx hP => ?_) (fun σ H16 hP => ?_)
    · obtain ⟨as, y13, rfl, S16, tq16, hf, st⟩ := hP
      obtain ⟨k, rfl, hk, km⟩ := get_ints hx
      have gu := runs_good (w := wd2.take i) gs fun j hj => rng2 j (List.mem_of_mem_take hj)
      have el : (sline s0 (wd2.take i))[(sline s0 (wd2.take i)).length - 1]? = some (runs s0 (wd2.take i)) := by
        rw [length_sline, Nat.add_sub_cancel]
        exact sline_last
      obtain ⟨a2, ea, ta2⟩ := st.last el
      have la : as.length ≤ 201 := by
        rw [st.1, length_sline, List.length_take]
        omega
      refine ⟨.ref lo, rfl, .inl ⟨rfl, _, lq hf⟩, .ref lo, rfl, 1, rfl, lo, _, -1, .ref a2, rfl, rfl, lq hf, atI_neg1 ea, .int k, rfl, a2, n, k, _, rfl, ta2, gu, n7, fun H17 p17 S17 t17 => ?_⟩
      have hf17 := S17 _ _ hf
      refine ⟨lo, _, _, rfl, rfl, hf17, by rw [List.length_map]; exact small1000 (by omega), as ++ [p17], _, rfl, (S16.trans S17).put nlo0, (tq16.to S17).put hf17, by rw [upd_same]; simp, ?_⟩
      rw [take_snoc hk, sline_snoc]
      exact ((st.to S17).snoc t17).put hf17
    obtain ⟨as, y13, rfl, S16, tq16, hf, st⟩ := hP
    rw [List.length_map, List.take_length] at st
    have la : as.length ≤ 128 := by
      rw [st.1, length_sline]
      omega
    refine ⟨.ref lo, rfl, lo, rfl, ⟨_, lq hf⟩, fun C nC => ?_⟩
    refine lc_list (K := K) (a := lo) (xs := as.map V.ref) (fun i H' => H' = upd H16 C (.lst (((((sline s0 wd2).take i).map fun u => ((u.length : Nat) : Int))).map V.int))) rfl
      (fun i H' _ e => by rw [e]; exact lq (up hf nC)) (fun i x H17 hx hP => ?_) (fun H17 hP => ?_)
    · subst hP
      obtain ⟨a2, u, rfl, ha2, hu, ta2⟩ := (st.to ((Same.refl H16).new (o := .lst (((((sline s0 wd2).take i).map fun u => ((u.length : Nat) : Int))).map V.int)) nC)).get hx
      have hi : i < as.length := (List.getElem?_eq_some_iff.mp ha2).1
      refine ⟨wipe1, .ref a2, rfl, a2, _, rfl, .inr ta2.sq, _, upd_same, by rw [List.length_map, List.length_map, List.length_take]; exact small1000 (by omega), ?_⟩
      rw [upd_upd, map_snoc, take_snoc hu, List.map_append (l₂ := [u]), List.length_map]
      rfl
    subst hP
    rw [List.length_map, st.1, List.take_length]
    have S17 := S16.new (o := .lst (((sline s0 wd2).map fun u => ((u.length : Nat) : Int)).map V.int)) nC
    have st17 := st.to ((Same.refl H16).new (o := .lst (((sline s0 wd2).map fun u => ((u.length : Nat) : Int)).map V.int)) nC)
    refine ⟨C, _, rfl, lq upd_same, by rw [List.length_map, length_sline]; omega, fun mx hmx hmax => ?_⟩
    have okl := hw2.ok_at PK.ls
    have emx : mx = pk := by
      obtain ⟨u, hu, rfl⟩ := List.mem_map.mp hmx
      have h1 : ((u.length : Nat) : Int) ≤ pk := okl u hu
      refine Int.le_antisymm h1 (Int.not_lt.mp fun h2 => ?_)
      have all : ∀ v ∈ sline s0 wd2, okm ((u.length : Nat) : Int) v := fun v hv => hmax _ (List.mem_map_of_mem hv)
      have s0m : s0 ∈ sline s0 wd2 := List.mem_of_getElem? sline_head
      exact PK.least _ h2 (all s0 s0m) ⟨_, (hw2.ofline all).pth gw gs (all s0 s0m)⟩
    subst emx
    refine ⟨_, rfl, rfl, true, by rw [decide_eq_true rfl], iteT ?_⟩
    have el : (sline s0 wd2)[(sline s0 wd2).length - 1]? = some (runs s0 wd2) := by
      rw [length_sline, Nat.add_sub_cancel]
      exact sline_last
    obtain ⟨a3, ea3, ta3⟩ := st17.last el
    rw [hw2.ends] at ta3
    refine ⟨.ref lo, rfl, 1, rfl, lo, _, -1, .ref a3, rfl, rfl, lq (up hf nC), atI_neg1 ea3, .ref b, rfl, _, _, dp_tup ta3.sq, dp_tup (tb9.to S17).sq, inD_shaped _, inD_shaped _, true, by rw [inD_eqv, decide_eq_true rfl], iteT ?_⟩
    refine ⟨_, rfl, _, rfl, wa, a, n, ar, s0, rfl, W9.to S17, ta9.to S17, gs, fun H18 pc cs S18 tcs hcs => ?_⟩
    obtain ⟨c, hc, cpos⟩ := hcs t0 d hd
    refine ⟨.int (d : Int), rfl, pc, _, (d : Int), .int c, rfl, rfl, tcs.sq, atI_nat (j := d) (by rw [List.getElem?_map, hc]; rfl), c, 0, rfl, rfl, ?_⟩
    show Q (.bl (decide (0 < c))) H18
    rw [decide_eq_true cpos]
    exact q H18
  · have nd : ∀ d : Nat, ¬ PLM.IsD (Rl n ar fun _ => True) s0 t0 d := fun d hd => rc ⟨d, hd.1⟩
    rw [valO_none D rc, decide_eq_true rfl]
    have ev := vn rc
    subst ev
    refine iteT ⟨.non, rfl, true, rfl, iteT ?_⟩
    refine ⟨_, rfl, _, rfl, _, rfl, wa, a, b, n, ar, s0, t0, rfl, W9, ta9, gs, tb9, gt, fun H1 z S1 z0 _ => ⟨rfl, true, ?_, iteT ?_⟩⟩
    · rw [z0 rc] <;> rfl
    refine ⟨_, rfl, _, rfl, _, rfl, wa, a, b, n, ar, s0, t0, rfl, W9.to S1, ta9.to S1, gs, tb9.to S1, gt, fun H2 z2 S2 z0 _ => ⟨true, ?_, iteT ?_⟩⟩
    · rw [z0 rc] <;> rfl
    have S12 := S1.trans S2
    refine ⟨_, rfl, _, rfl, _, rfl, wa, a, b, n, ar, s0, t0, rfl, W9.to S12, ta9.to S12, gs, tb9.to S12, gt, fun H3 z3 S3 z0 _ => ?_⟩
    rw [z0 rc]
    exact q H3
end
end PLW

/-! PLHead -/
set_option Elab.async false
set_option linter.all false
set_option maxRecDepth 100000
set_option maxHeartbeats 0
namespace PLH
open PySem PySem.Spec PyProof.Rows L2
def top (i : Nat) : Stmt := PySem.Challenge.pw_passlights_k66_across_deeds_and_lamps.main.body.getD i (.Pass ⟨0, 0, 0, 0⟩)
abbrev s_is_in : Stmt := top 7
abbrev s_is_arrow : Stmt := top 10
abbrev s_need_web : Stmt := top 11
abbrev s_need_burning : Stmt := top 12
abbrev s_need_both : Stmt := top 13
abbrev s_led_from : Stmt := top 14
abbrev s_turned_in : Stmt := top 15
abbrev s_light_in : Stmt := top 18
abbrev s_quench_in : Stmt := top 19
abbrev s_changed : Stmt := top 20
abbrev s_doable : Stmt := top 21
abbrev s_is_lamps : Stmt := top 22
abbrev s_line_in : Stmt := top 23
abbrev s_line_of : Stmt := top 24
abbrev s_run : Stmt := top 25
abbrev s_comes_in : Stmt := top 27
abbrev s_steps_from : Stmt := top 29
abbrev s_need_two : Stmt := top 30
abbrev s_fewest : Stmt := top 31
abbrev s_steps_to : Stmt := top 32
abbrev s_way_between : Stmt := top 33
abbrev s_ways_count : Stmt := top 34
abbrev s_farthest_in : Stmt := top 35
abbrev s_farthest : Stmt := top 36
abbrev s_deed_counts : Stmt := top 37
abbrev s_word_sorts : Stmt := top 39
abbrev s_burn_times : Stmt := top 40
abbrev s_sort_counts : Stmt := top 41
abbrev s_need_deeds : Stmt := top 44
abbrev s_counts_in : Stmt := top 45
abbrev s_words_between : Stmt := top 46
abbrev s_below_from : Stmt := top 48
abbrev s_need_most : Stmt := top 49
abbrev s_peak_in : Stmt := top 50
abbrev s_least_peak : Stmt := top 51
abbrev s_fewest_below : Stmt := top 52
abbrev s_peak_word : Stmt := top 53
abbrev s__law_taken : Stmt := top 55
abbrev s__law_pick : Stmt := top 56
abbrev s__law_web : Stmt := top 57
abbrev s__law_burning : Stmt := top 58
abbrev s__law_changed : Stmt := top 59
abbrev s__law_run : Stmt := top 60
abbrev s__law_light : Stmt := top 61
abbrev s__law_quench : Stmt := top 62
abbrev s__law_after : Stmt := top 63
abbrev s__law_word : Stmt := top 64
abbrev s_law : Stmt := top 65
def d_is_in : He.DefD := ⟨("is_in", none), "is_in", "is_in", defArgs s_is_in, defBody s_is_in, defScope s_is_in, [], []⟩
def d_is_arrow : He.DefD := ⟨("is_arrow", none), "is_arrow", "is_arrow", defArgs s_is_arrow, defBody s_is_arrow, defScope s_is_arrow, [], []⟩
def d_need_web : He.DefD := ⟨("need_web", none), "need_web", "need_web", defArgs s_need_web, defBody s_need_web, defScope s_need_web, [], []⟩
def d_need_burning : He.DefD := ⟨("need_burning", none), "need_burning", "need_burning", defArgs s_need_burning, defBody s_need_burning, defScope s_need_burning, [], []⟩
def d_need_both : He.DefD := ⟨("need_both", none), "need_both", "need_both", defArgs s_need_both, defBody s_need_both, defScope s_need_both, [], []⟩
def d_led_from : He.DefD := ⟨("led_from", none), "led_from", "led_from", defArgs s_led_from, defBody s_led_from, defScope s_led_from, [], []⟩
def d_turned_in : He.DefD := ⟨("turned_in", none), "turned_in", "turned_in", defArgs s_turned_in, defBody s_turned_in, defScope s_turned_in, [], []⟩
def d_light_in : He.DefD := ⟨("light_in", none), "light_in", "light_in", defArgs s_light_in, defBody s_light_in, defScope s_light_in, [], []⟩
def d_quench_in : He.DefD := ⟨("quench_in", none), "quench_in", "quench_in", defArgs s_quench_in, defBody s_quench_in, defScope s_quench_in, [], []⟩
def d_changed : He.DefD := ⟨("changed", none), "changed", "changed", defArgs s_changed, defBody s_changed, defScope s_changed, [], []⟩
def d_doable : He.DefD := ⟨("doable", none), "doable", "doable", defArgs s_doable, defBody s_doable, defScope s_doable, [], []⟩
def d_is_lamps : He.DefD := ⟨("is_lamps", none), "is_lamps", "is_lamps", defArgs s_is_lamps, defBody s_is_lamps, defScope s_is_lamps, [], []⟩
def d_line_in : He.DefD := ⟨("line_in", none), "line_in", "line_in", defArgs s_line_in, defBody s_line_in, defScope s_line_in, [], []⟩
def d_line_of : He.DefD := ⟨("line_of", none), "line_of", "line_of", defArgs s_line_of, defBody s_line_of, defScope s_line_of, [], []⟩
def d_run : He.DefD := ⟨("run", none), "run", "run", defArgs s_run, defBody s_run, defScope s_run, [], []⟩
def d_comes_in : He.DefD := ⟨("comes_in", none), "comes_in", "comes_in", defArgs s_comes_in, defBody s_comes_in, defScope s_comes_in, [], []⟩
def d_steps_from : He.DefD := ⟨("steps_from", none), "steps_from", "steps_from", defArgs s_steps_from, defBody s_steps_from, defScope s_steps_from, [], []⟩
def d_need_two : He.DefD := ⟨("need_two", none), "need_two", "need_two", defArgs s_need_two, defBody s_need_two, defScope s_need_two, [], []⟩
def d_fewest : He.DefD := ⟨("fewest", none), "fewest", "fewest", defArgs s_fewest, defBody s_fewest, defScope s_fewest, [], []⟩
def d_steps_to : He.DefD := ⟨("steps_to", none), "steps_to", "steps_to", defArgs s_steps_to, defBody s_steps_to, defScope s_steps_to, [], []⟩
def d_way_between : He.DefD := ⟨("way_between", none), "way_between", "way_between", defArgs s_way_between, defBody s_way_between, defScope s_way_between, [], []⟩
def d_ways_count : He.DefD := ⟨("ways_count", none), "ways_count", "ways_count", defArgs s_ways_count, defBody s_ways_count, defScope s_ways_count, [], []⟩
def d_farthest_in : He.DefD := ⟨("farthest_in", none), "farthest_in", "farthest_in", defArgs s_farthest_in, defBody s_farthest_in, defScope s_farthest_in, [], []⟩
def d_farthest : He.DefD := ⟨("farthest", none), "farthest", "farthest", defArgs s_farthest, defBody s_farthest, defScope s_farthest, [], []⟩
def d_deed_counts : He.DefD := ⟨("deed_counts", none), "deed_counts", "deed_counts", defArgs s_deed_counts, defBody s_deed_counts, defScope s_deed_counts, [], []⟩
def d_word_sorts : He.DefD := ⟨("word_sorts", none), "word_sorts", "word_sorts", defArgs s_word_sorts, defBody s_word_sorts, defScope s_word_sorts, [], []⟩
def d_burn_times : He.DefD := ⟨("burn_times", none), "burn_times", "burn_times", defArgs s_burn_times, defBody s_burn_times, defScope s_burn_times, [], []⟩
def d_sort_counts : He.DefD := ⟨("sort_counts", none), "sort_counts", "sort_counts", defArgs s_sort_counts, defBody s_sort_counts, defScope s_sort_counts, [], []⟩
def d_need_deeds : He.DefD := ⟨("need_deeds", none), "need_deeds", "need_deeds", defArgs s_need_deeds, defBody s_need_deeds, defScope s_need_deeds, [], []⟩
def d_counts_in : He.DefD := ⟨("counts_in", none), "counts_in", "counts_in", defArgs s_counts_in, defBody s_counts_in, defScope s_counts_in, [], []⟩
def d_words_between : He.DefD := ⟨("words_between", none), "words_between", "words_between", defArgs s_words_between, defBody s_words_between, defScope s_words_between, [], []⟩
def d_below_from : He.DefD := ⟨("below_from", none), "below_from", "below_from", defArgs s_below_from, defBody s_below_from, defScope s_below_from, [], []⟩
def d_need_most : He.DefD := ⟨("need_most", none), "need_most", "need_most", defArgs s_need_most, defBody s_need_most, defScope s_need_most, [], []⟩
def d_peak_in : He.DefD := ⟨("peak_in", none), "peak_in", "peak_in", defArgs s_peak_in, defBody s_peak_in, defScope s_peak_in, [], []⟩
def d_least_peak : He.DefD := ⟨("least_peak", none), "least_peak", "least_peak", defArgs s_least_peak, defBody s_least_peak, defScope s_least_peak, [], []⟩
def d_fewest_below : He.DefD := ⟨("fewest_below", none), "fewest_below", "fewest_below", defArgs s_fewest_below, defBody s_fewest_below, defScope s_fewest_below, [], []⟩
def d_peak_word : He.DefD := ⟨("peak_word", none), "peak_word", "peak_word", defArgs s_peak_word, defBody s_peak_word, defScope s_peak_word, [], []⟩
def d__law_taken : He.DefD := ⟨("_law_taken", none), "_law_taken", "_law_taken", defArgs s__law_taken, defBody s__law_taken, defScope s__law_taken, [], []⟩
def d__law_pick : He.DefD := ⟨("_law_pick", none), "_law_pick", "_law_pick", defArgs s__law_pick, defBody s__law_pick, defScope s__law_pick, [], []⟩
def d__law_web : He.DefD := ⟨("_law_web", none), "_law_web", "_law_web", defArgs s__law_web, defBody s__law_web, defScope s__law_web, [], []⟩
def d__law_burning : He.DefD := ⟨("_law_burning", none), "_law_burning", "_law_burning", defArgs s__law_burning, defBody s__law_burning, defScope s__law_burning, [], []⟩
def d__law_changed : He.DefD := ⟨("_law_changed", none), "_law_changed", "_law_changed", defArgs s__law_changed, defBody s__law_changed, defScope s__law_changed, [], []⟩
def d__law_run : He.DefD := ⟨("_law_run", none), "_law_run", "_law_run", defArgs s__law_run, defBody s__law_run, defScope s__law_run, [], []⟩
def d__law_light : He.DefD := ⟨("_law_light", none), "_law_light", "_law_light", defArgs s__law_light, defBody s__law_light, defScope s__law_light, [], []⟩
def d__law_quench : He.DefD := ⟨("_law_quench", none), "_law_quench", "_law_quench", defArgs s__law_quench, defBody s__law_quench, defScope s__law_quench, [], []⟩
def d__law_after : He.DefD := ⟨("_law_after", none), "_law_after", "_law_after", defArgs s__law_after, defBody s__law_after, defScope s__law_after, [], []⟩
def d__law_word : He.DefD := ⟨("_law_word", none), "_law_word", "_law_word", defArgs s__law_word, defBody s__law_word, defScope s__law_word, [], []⟩
def d_law : He.DefD := ⟨("law", none), "law", "law", defArgs s_law, defBody s_law, defScope s_law, [], []⟩
def fn : List He.DefD := [d_is_in, d_is_arrow, d_need_web, d_need_burning, d_need_both, d_led_from, d_turned_in, d_light_in, d_quench_in, d_changed, d_doable, d_is_lamps, d_line_in, d_line_of, d_run, d_comes_in, d_steps_from, d_need_two, d_fewest, d_steps_to, d_way_between, d_ways_count, d_farthest_in, d_farthest, d_deed_counts, d_word_sorts, d_burn_times, d_sort_counts, d_need_deeds, d_counts_in, d_words_between, d_below_from, d_need_most, d_peak_in, d_least_peak, d_fewest_below, d_peak_word, d__law_taken, d__law_pick, d__law_web, d__law_burning, d__law_changed, d__law_run, d__law_light, d__law_quench, d__law_after, d__law_word, d_law]
def fa : List He.Fa := [.glo "is_in", .glo "is_arrow", .glo "need_web", .glo "need_burning", .glo "need_both", .glo "led_from", .glo "turned_in", .glo "light_in", .glo "quench_in", .glo "changed", .glo "doable", .glo "is_lamps", .glo "line_in", .glo "line_of", .glo "run", .glo "comes_in", .glo "steps_from", .glo "need_two", .glo "fewest", .glo "steps_to", .glo "way_between", .glo "ways_count", .glo "farthest_in", .glo "farthest", .glo "deed_counts", .glo "word_sorts", .glo "burn_times", .glo "sort_counts", .glo "need_deeds", .glo "counts_in", .glo "words_between", .glo "below_from", .glo "need_most", .glo "peak_in", .glo "least_peak", .glo "fewest_below", .glo "peak_word", .glo "_law_taken", .glo "_law_pick", .glo "_law_web", .glo "_law_burning", .glo "_law_changed", .glo "_law_run", .glo "_law_light", .glo "_law_quench", .glo "_law_after", .glo "_law_word", .glo "law", .free "bool", .free "enumerate", .free "int", .free "isinstance", .free "len", .free "list", .free "max", .free "min", .free "range", .free "set", .free "sorted", .free "tuple", .free "zip", .int "MOST_LAMPS" 9, .int "MOST_WORD" 200, .int "MOST_DEEDS" 20]
abbrev R : PySem.W.OpenRow := PySem.W.OpenLaw.row PySem.Challenge.rw_passlights_k66_across_deeds_and_lamps
abbrev hk : PySem.W.Hook := He.hookD 4 fa fn
def ob (s : PySem.W.SharedT) : He.AlD := He.obsDG 4 fa fn (HandSHeadRun.getT s)
theorem ob_eq (s : PySem.W.SharedT) : ob s = hk.obs s.abs := He.obsDG_eq (HandSHeadRun.getT_eq s)
def names0 : List PySem.Str := ["LampError", "BadWeb", "BadBurning", "BadWord", "BadCount", "is_in", "MOST_LAMPS", "is_arrow", "need_web", "need_burning", "need_both", "led_from", "turned_in", "MOST_WORD", "light_in"]
def names1 : List PySem.Str := ["quench_in", "changed", "doable", "is_lamps", "line_in", "line_of", "run", "comes_in", "steps_from", "need_two", "fewest", "steps_to", "way_between", "ways_count", "farthest_in"]
def names2 : List PySem.Str := ["farthest", "deed_counts", "word_sorts", "burn_times", "sort_counts", "MOST_DEEDS", "need_deeds", "counts_in", "words_between", "below_from", "need_most", "peak_in", "least_peak", "fewest_below", "peak_word"]
def names3 : List PySem.Str := ["_law_taken", "_law_pick", "_law_web", "_law_burning", "_law_changed", "_law_run", "_law_light", "_law_quench", "_law_after", "_law_word"]
def names : List PySem.Str := names0 ++ names1 ++ names2 ++ names3
theorem run (w : World) : HandSHeadRun.RunEq R (PySem.W.view R.prog [65]) hk ob 3000 names w := by
  intro os
  kernel_rfl
end PLH

/-! PLEnd -/
set_option Elab.async false
set_option linter.all false
set_option maxRecDepth 100000
set_option maxHeartbeats 0
namespace PLW
open PySem PySem.Spec PyProof.Rows L2
theorem mkSrc {K : PySem.W.Frag} {h : Heap} {mg : Str → Option Value} (X : K.In h) (G : h.Ns mainGlobals mg) (c : He.SaysD PLH.fa PLH.fn K) (i : Nat) {x : Str} {st : Stmt} (h1 : PLH.fn[i]? = some ⟨(x, none), x, x, defArgs st, defBody st, defScope st, [], []⟩) (h2 : PLH.fa[i]? = some (.glo x)) : Src K mg x st := by
  obtain ⟨fd, FT⟩ := c.def_ i h1
  exact ⟨_, fd, He.glo_ok X G (c.fact i h2), FT⟩
theorem facts {P : Program} {w : World} {K : PySem.W.Frag} {h : Heap} {mg : Str → Option Value} {f : Addr} (X : K.In h) (G : h.Ns mainGlobals mg) (hfa : mg ("law" : Str) = some (.ref f)) (c : He.SaysD PLH.fa PLH.fn K) :
    ∃ fd : FuncData, (∀ (s : Shared) (v : Value), BindsTo s fd ⟨[v], []⟩ [("_law_script", v)]) ∧ ∀ base : Heap, K.In base → base.Ns mainGlobals mg → FnOk P w K mg base CX0 7 f fd ["_law_script"] (sp_law K) := by
  have T : Txt mg := ⟨He.free_ok X G (c.fact 48 (f := .free "bool") rfl), He.free_ok X G (c.fact 49 (f := .free "enumerate") rfl), He.free_ok X G (c.fact 50 (f := .free "int") rfl), He.free_ok X G (c.fact 51 (f := .free "isinstance") rfl), He.free_ok X G (c.fact 52 (f := .free "len") rfl), He.free_ok X G (c.fact 53 (f := .free "list") rfl), He.free_ok X G (c.fact 54 (f := .free "max") rfl), He.free_ok X G (c.fact 55 (f := .free "min") rfl), He.free_ok X G (c.fact 56 (f := .free "range") rfl), He.free_ok X G (c.fact 57 (f := .free "set") rfl), He.free_ok X G (c.fact 58 (f := .free "sorted") rfl), He.free_ok X G (c.fact 59 (f := .free "tuple") rfl), He.free_ok X G (c.fact 60 (f := .free "zip") rfl), He.int_ok X G (c.fact 61 (f := .int "MOST_LAMPS" 9) rfl), He.int_ok X G (c.fact 62 (f := .int "MOST_WORD" 200) rfl), He.int_ok X G (c.fact 63 (f := .int "MOST_DEEDS" 20) rfl)⟩
  have F_is_in : Src K mg "is_in" s_is_in := mkSrc X G c 0 rfl rfl
  have F_is_arrow : Src K mg "is_arrow" s_is_arrow := mkSrc X G c 1 rfl rfl
  have F_need_web : Src K mg "need_web" s_need_web := mkSrc X G c 2 rfl rfl
  have F_need_burning : Src K mg "need_burning" s_need_burning := mkSrc X G c 3 rfl rfl
  have F_need_both : Src K mg "need_both" s_need_both := mkSrc X G c 4 rfl rfl
  have F_led_from : Src K mg "led_from" s_led_from := mkSrc X G c 5 rfl rfl
  have F_turned_in : Src K mg "turned_in" s_turned_in := mkSrc X G c 6 rfl rfl
  have F_light_in : Src K mg "light_in" s_light_in := mkSrc X G c 7 rfl rfl
  have F_quench_in : Src K mg "quench_in" s_quench_in := mkSrc X G c 8 rfl rfl
  have F_changed : Src K mg "changed" s_changed := mkSrc X G c 9 rfl rfl
  have F_doable : Src K mg "doable" s_doable := mkSrc X G c 10 rfl rfl
  have F_is_lamps : Src K mg "is_lamps" s_is_lamps := mkSrc X G c 11 rfl rfl
  have F_line_in : Src K mg "line_in" s_line_in := mkSrc X G c 12 rfl rfl
  have F_line_of : Src K mg "line_of" s_line_of := mkSrc X G c 13 rfl rfl
  have F_run : Src K mg "run" s_run := mkSrc X G c 14 rfl rfl
  have F_comes_in : Src K mg "comes_in" s_comes_in := mkSrc X G c 15 rfl rfl
  have F_steps_from : Src K mg "steps_from" s_steps_from := mkSrc X G c 16 rfl rfl
  have F_need_two : Src K mg "need_two" s_need_two := mkSrc X G c 17 rfl rfl
  have F_fewest : Src K mg "fewest" s_fewest := mkSrc X G c 18 rfl rfl
  have F_steps_to : Src K mg "steps_to" s_steps_to := mkSrc X G c 19 rfl rfl
  have F_way_between : Src K mg "way_between" s_way_between := mkSrc X G c 20 rfl rfl
  have F_ways_count : Src K mg "ways_count" s_ways_count := mkSrc X G c 21 rfl rfl
  have F_farthest_in : Src K mg "farthest_in" s_farthest_in := mkSrc X G c 22 rfl rfl
  have F_farthest : Src K mg "farthest" s_farthest := mkSrc X G c 23 rfl rfl
  have F_deed_counts : Src K mg "deed_counts" s_deed_counts := mkSrc X G c 24 rfl rfl
  have F_word_sorts : Src K mg "word_sorts" s_word_sorts := mkSrc X G c 25 rfl rfl
  have F_burn_times : Src K mg "burn_times" s_burn_times := mkSrc X G c 26 rfl rfl
  have F_sort_counts : Src K mg "sort_counts" s_sort_counts := mkSrc X G c 27 rfl rfl
  have F_need_deeds : Src K mg "need_deeds" s_need_deeds := mkSrc X G c 28 rfl rfl
  have F_counts_in : Src K mg "counts_in" s_counts_in := mkSrc X G c 29 rfl rfl
  have F_words_between : Src K mg "words_between" s_words_between := mkSrc X G c 30 rfl rfl
  have F_below_from : Src K mg "below_from" s_below_from := mkSrc X G c 31 rfl rfl
  have F_need_most : Src K mg "need_most" s_need_most := mkSrc X G c 32 rfl rfl
  have F_peak_in : Src K mg "peak_in" s_peak_in := mkSrc X G c 33 rfl rfl
  have F_least_peak : Src K mg "least_peak" s_least_peak := mkSrc X G c 34 rfl rfl
  have F_fewest_below : Src K mg "fewest_below" s_fewest_below := mkSrc X G c 35 rfl rfl
  have F_peak_word : Src K mg "peak_word" s_peak_word := mkSrc X G c 36 rfl rfl
  have F__law_taken : Src K mg "_law_taken" s__law_taken := mkSrc X G c 37 rfl rfl
  have F__law_pick : Src K mg "_law_pick" s__law_pick := mkSrc X G c 38 rfl rfl
  have F__law_web : Src K mg "_law_web" s__law_web := mkSrc X G c 39 rfl rfl
  have F__law_burning : Src K mg "_law_burning" s__law_burning := mkSrc X G c 40 rfl rfl
  have F__law_changed : Src K mg "_law_changed" s__law_changed := mkSrc X G c 41 rfl rfl
  have F__law_run : Src K mg "_law_run" s__law_run := mkSrc X G c 42 rfl rfl
  have F__law_light : Src K mg "_law_light" s__law_light := mkSrc X G c 43 rfl rfl
  have F__law_quench : Src K mg "_law_quench" s__law_quench := mkSrc X G c 44 rfl rfl
  have F__law_after : Src K mg "_law_after" s__law_after := mkSrc X G c 45 rfl rfl
  have F__law_word : Src K mg "_law_word" s__law_word := mkSrc X G c 46 rfl rfl
  obtain ⟨fd, F⟩ := c.def_ 47 (d := PLH.d_law) rfl
  have e := hfa.symm.trans (He.glo_ok X G (c.fact 47 (f := .glo "law") rfl))
  cases e
  have b := FunD.bindsA (ps := ["_law_script"]) F fun _ _ _ _ _ _ us hl => match us, hl with | [_], _ => rfl
  refine ⟨fd, fun s v => b s [v] rfl, fun base _ _ => ?_⟩
  have D_is_in : Def P w K mg base 1 "is_in" ["value", "least", "most"] sp_is_in := ok_is_in F_is_in T 
  have D_is_arrow : Def P w K mg base 2 "is_arrow" ["value", "many"] sp_is_arrow := ok_is_arrow F_is_arrow T D_is_in
  have D_need_web : Def P w K mg base 3 "need_web" ["web"] sp_need_web := ok_need_web F_need_web T D_is_in D_is_arrow
  have D_need_burning : Def P w K mg base 2 "need_burning" ["web", "burning"] sp_need_burning := ok_need_burning F_need_burning T D_is_in
  have D_need_both : Def P w K mg base 4 "need_both" ["web", "burning"] sp_need_both := ok_need_both F_need_both T D_need_web D_need_burning
  have D_led_from : Def P w K mg base 1 "led_from" ["web", "some"] sp_led_from := ok_led_from F_led_from T 
  have D_turned_in : Def P w K mg base 1 "turned_in" ["web"] sp_turned_in := ok_turned_in F_turned_in T 
  have D_light_in : Def P w K mg base 1 "light_in" ["web", "burning"] sp_light_in := ok_light_in F_light_in T 
  have D_quench_in : Def P w K mg base 1 "quench_in" ["web", "burning"] sp_quench_in := ok_quench_in F_quench_in T 
  have D_changed : Def P w K mg base 1 "changed" ["burning", "lamp"] sp_changed := ok_changed F_changed T 
  have D_doable : Def P w K mg base 2 "doable" ["web", "burning"] sp_doable := ok_doable F_doable T D_light_in D_quench_in
  have D_is_lamps : Def P w K mg base 2 "is_lamps" ["web", "value"] sp_is_lamps := ok_is_lamps F_is_lamps T D_is_in
  have D_line_in : Def P w K mg base 3 "line_in" ["web", "burning", "word"] sp_line_in := ok_line_in F_line_in T D_doable D_changed
  have D_line_of : Def P w K mg base 5 "line_of" ["web", "burning", "word"] sp_line_of := ok_line_of F_line_of T D_need_both D_is_lamps D_line_in
  have D_run : Def P w K mg base 6 "run" ["web", "burning", "word"] sp_run := ok_run F_run T D_line_of
  have D_comes_in : Def P w K mg base 2 "comes_in" ["web", "one", "other"] sp_comes_in := ok_comes_in F_comes_in T D_led_from D_turned_in
  have D_steps_from : Def P w K mg base 3 "steps_from" ["web", "burning"] sp_steps_from := ok_steps_from F_steps_from T D_doable D_changed
  have D_need_two : Def P w K mg base 5 "need_two" ["web", "one", "other"] sp_need_two := ok_need_two F_need_two T D_need_both D_need_burning
  have D_fewest : Def P w K mg base 6 "fewest" ["web", "one", "other"] sp_fewest := ok_fewest F_fewest T D_need_two D_steps_from
  have D_steps_to : Def P w K mg base 4 "steps_to" ["web", "burning"] sp_steps_to := ok_steps_to F_steps_to T D_steps_from D_turned_in
  have D_way_between : Def P w K mg base 6 "way_between" ["web", "one", "other"] sp_way_between := ok_way_between F_way_between T D_need_two D_comes_in D_steps_to D_doable D_changed
  have D_ways_count : Def P w K mg base 6 "ways_count" ["web", "one", "other"] sp_ways_count := ok_ways_count F_ways_count T D_need_two D_comes_in D_steps_to D_doable D_changed
  have D_farthest_in : Def P w K mg base 4 "farthest_in" ["web", "burning"] sp_farthest_in := ok_farthest_in F_farthest_in T D_steps_from
  have D_farthest : Def P w K mg base 5 "farthest" ["web", "burning"] sp_farthest := ok_farthest F_farthest T D_need_both D_farthest_in
  have D_deed_counts : Def P w K mg base 5 "deed_counts" ["web", "burning"] sp_deed_counts := ok_deed_counts F_deed_counts T D_need_both D_steps_from
  have D_word_sorts : Def P w K mg base 6 "word_sorts" ["web", "burning", "word"] sp_word_sorts := ok_word_sorts F_word_sorts T D_line_of
  have D_burn_times : Def P w K mg base 6 "burn_times" ["web", "burning", "word"] sp_burn_times := ok_burn_times F_burn_times T D_line_of
  have D_sort_counts : Def P w K mg base 6 "sort_counts" ["web", "one", "other"] sp_sort_counts := ok_sort_counts F_sort_counts T D_need_two D_comes_in D_steps_from
  have D_need_deeds : Def P w K mg base 2 "need_deeds" ["many"] sp_need_deeds := ok_need_deeds F_need_deeds T D_is_in
  have D_counts_in : Def P w K mg base 3 "counts_in" ["web", "burning", "many"] sp_counts_in := ok_counts_in F_counts_in T D_doable D_changed
  have D_words_between : Def P w K mg base 5 "words_between" ["web", "one", "other", "many"] sp_words_between := ok_words_between F_words_between T D_need_both D_need_burning D_need_deeds D_counts_in
  have D_below_from : Def P w K mg base 3 "below_from" ["web", "burning", "most"] sp_below_from := ok_below_from F_below_from T D_doable D_changed
  have D_need_most : Def P w K mg base 2 "need_most" ["most"] sp_need_most := ok_need_most F_need_most T D_is_in
  have D_peak_in : Def P w K mg base 4 "peak_in" ["web", "one", "other"] sp_peak_in := ok_peak_in F_peak_in T D_below_from
  have D_least_peak : Def P w K mg base 6 "least_peak" ["web", "one", "other"] sp_least_peak := ok_least_peak F_least_peak T D_need_two D_comes_in D_peak_in
  have D_fewest_below : Def P w K mg base 6 "fewest_below" ["web", "one", "other", "most"] sp_fewest_below := ok_fewest_below F_fewest_below T D_need_two D_need_most D_below_from
  have D_peak_word : Def P w K mg base 6 "peak_word" ["web", "one", "other"] sp_peak_word := ok_peak_word F_peak_word T D_need_two D_comes_in D_peak_in D_below_from D_turned_in D_doable D_changed
  have D__law_taken : Def P w K mg base 1 "_law_taken" ["_law_row", "_law_many"] (sp__law_taken K) := ok__law_taken F__law_taken T 
  have D__law_pick : Def P w K mg base 2 "_law_pick" ["_law_row", "_law_things"] (sp__law_pick K) := ok__law_pick F__law_pick T D__law_taken
  have D__law_web : Def P w K mg base 3 "_law_web" ["_law_row", "_law_most"] (sp__law_web K) := ok__law_web F__law_web T D__law_taken D__law_pick
  have D__law_burning : Def P w K mg base 3 "_law_burning" ["_law_row", "_law_many"] (sp__law_burning K) := ok__law_burning F__law_burning T D__law_pick D__law_taken
  have D__law_changed : Def P w K mg base 1 "_law_changed" ["_law_burning_here", "_law_lamp"] sp__law_changed := ok__law_changed F__law_changed T 
  have D__law_run : Def P w K mg base 2 "_law_run" ["_law_burning_here", "_law_word_here"] sp__law_run := ok__law_run F__law_run T D__law_changed
  have D__law_light : Def P w K mg base 1 "_law_light" ["_law_web_here", "_law_burning_here"] sp__law_light := ok__law_light F__law_light T 
  have D__law_quench : Def P w K mg base 1 "_law_quench" ["_law_web_here", "_law_burning_here"] sp__law_quench := ok__law_quench F__law_quench T 
  have D__law_after : Def P w K mg base 2 "_law_after" ["_law_web_here", "_law_burning_here"] sp__law_after := ok__law_after F__law_after T D__law_light D__law_quench D__law_changed
  have D__law_word : Def P w K mg base 3 "_law_word" ["_law_row", "_law_web_here", "_law_burning_here", "_law_most"] (sp__law_word K) := ok__law_word F__law_word T D__law_taken D__law_after D__law_pick
  exact ok_law F T D__law_web D__law_burning D__law_pick D__law_run D__law_word D_fewest D_way_between D_sort_counts D_least_peak D_ways_count D_run D_farthest D_word_sorts D_words_between D_burn_times D_fewest_below D_peak_word D__law_changed D_deed_counts
end PLW
open PySem PySem.W PySem.Calls PyProof.Rows
theorem PySem.Challenge.cw_passlights_k66_across_deeds_and_lamps_holds : PySem.Challenge.rw_passlights_k66_across_deeds_and_lamps.Holds := by
  w_on; o_law
  refine HandSHeadRun.head_any (r := OpenLaw.row PySem.Challenge.rw_passlights_k66_across_deeds_and_lamps) (q := view (OpenLaw.row PySem.Challenge.rw_passlights_k66_across_deeds_and_lamps).prog [65]) (H := PLH.hk) (ob := PLH.ob) (M := 3000) (loose := PLH.names) (d := HandSHeadRun.topDef (OpenLaw.row PySem.Challenge.rw_passlights_k66_across_deeds_and_lamps).prog 65) (kwd := []) PLH.ob_eq
    (by kernel_rfl) (fun s => by kernel_rfl) PLH.run (by kernel_rfl) (by kernel_rfl) (by kernel_rfl) (by rfl) (by first | assumption | decide +kernel) (by decide +kernel) ⟨rfl, rfl, rfl, rfl, rfl, by decide +kernel⟩ ?hw ?hc
  case hw => w_witness2
  case hc =>
    refine L2.walk_ofE (l := PySem.Challenge.rw_passlights_k66_across_deeds_and_lamps) (n := 63) (k := 7) (x := "_law_script") (CX := L2.CX0) rfl (by decide) (by kernel_rfl) ⟨rfl, by decide, by decide⟩ ?F (fun _ _ _ _ z => z)
    intro w mg fa h Y G hmg0
    obtain ⟨K, KX, c⟩ := Y
    have hmg : mg ("law" : PySem.Str) = some (.ref fa) := by
      have e : (HandSHeadRun.topDef (OpenLaw.row PySem.Challenge.rw_passlights_k66_across_deeds_and_lamps).prog 65).name = ("law" : PySem.Str) := by kernel_rfl
      rw [← e]
      exact hmg0
    obtain ⟨fd, hb, hF⟩ := PLW.facts (P := (PySem.Challenge.rw_passlights_k66_across_deeds_and_lamps).prog) (w := w) KX G hmg c
    exact ⟨K, fd, PLW.sp_law K, KX, hb, fun H a ns hl _ hS => ⟨a, ns, rfl, hS, hl, fun _ => rfl⟩, hF⟩

